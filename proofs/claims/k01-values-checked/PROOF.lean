import PyProof.Rows.All
import Wide.All
import OpenK.AllK
import Wide.FinOn
import PyProof.ReprLen
import PyProof.ReprRoads
import PyProof.EqLayable
import HandS.ForMost
import HandS.Exc
import HandS.TryOnly
import HandS.ExcOwn
import HandS.WordsExc
import HandS.IsInst
import HandS.Walk
import HandS.Flow
import HandS.ExcInit
import HandS.ExcIs
import HandS.ExcField
import HandS.TryMany
import PyProof.StrBlock2
import PyProof.ListStr
import KE.KExcIs
import PySem.Challenge.RW_textorlist_k01_values_checked
set_option Elab.async false
set_option linter.all false
set_option maxRecDepth 100000
set_option maxHeartbeats 4000000
/-! ## Data: what can be shown, how long it is then -/
namespace Tx
open PySem

mutual
/-- no dict, letters of a text below the last code point, iv of less than 1920 bits -/
def fine : PyData → Bool
  | .none | .bool _ => true
  | .int i => decide (i.natAbs.log2 < 1920)
  | .str x => x.cps.toList.all fun c => decide (c < 0x110000)
  | .list xs | .tuple xs => fineAll xs
  | .dict _ => false
def fineAll : List PyData → Bool
  | [] => true
  | x :: xs => fine x && fineAll xs
end
mutual
/-- a bound for the number of signs of its repr -/
def wt : PyData → Nat
  | .none | .bool _ => 5
  | .int _ => 2000
  | .str x => 10 * x.length + 2
  | .list xs | .tuple xs => wtAll xs + 3
  | .dict _ => 0
def wtAll : List PyData → Nat
  | [] => 0
  | x :: xs => wt x + 2 + wtAll xs
end
theorem fineAll_iff : ∀ {xs : List PyData}, fineAll xs = true ↔ ∀ d ∈ xs, fine d = true
  | [] => by simp [fineAll]
  | x :: xs => by simp [fineAll, fineAll_iff (xs := xs)]
theorem wtAll_append : ∀ (xs ys : List PyData), wtAll (xs ++ ys) = wtAll xs + wtAll ys
  | [], ys => by simp [wtAll]
  | x :: xs, ys => by simp only [List.cons_append, wtAll, wtAll_append xs ys]; omega
theorem wtAll_le {B : Nat} : ∀ {xs : List PyData}, (∀ d ∈ xs, wt d ≤ B) → wtAll xs ≤ (B + 2) * xs.length
  | [], _ => by simp [wtAll]
  | x :: xs, h => by
    have h1 := h x List.mem_cons_self
    have h2 := wtAll_le (B := B) (xs := xs) fun d hd => h d (List.mem_cons_of_mem _ hd)
    simp only [wtAll, List.length_cons, Nat.mul_add, Nat.mul_one]
    omega
theorem depthAll_le {n : Nat} : ∀ {xs : List PyData}, (∀ d ∈ xs, d.depth ≤ n) → PyData.depthAll xs ≤ n
  | [], _ => by simp [PyData.depthAll]
  | x :: xs, h => by
    have h1 := h x List.mem_cons_self
    have h2 := depthAll_le (n := n) (xs := xs) fun d hd => h d (List.mem_cons_of_mem _ hd)
    simp only [PyData.depthAll]
    omega
theorem depth_mem : ∀ {xs : List PyData} {d : PyData}, d ∈ xs → d.depth ≤ PyData.depthAll xs
  | [], d, h => by simp at h
  | x :: xs, d, h => by
    simp only [PyData.depthAll]
    cases h with
    | head => omega
    | tail _ h => have := depth_mem h; omega
theorem wt_mem : ∀ {xs : List PyData} {d : PyData}, d ∈ xs → wt d + 2 ≤ wtAll xs
  | [], d, h => by simp at h
  | x :: xs, d, h => by
    simp only [wtAll]
    cases h with
    | head => omega
    | tail _ h => have := wt_mem h; omega
mutual
theorem fine_showable : ∀ d : PyData, fine d = true → d.showable = true
  | .none, _ => rfl
  | .bool _, _ => rfl
  | .str _, _ => rfl
  | .int i, h => by simpa [fine, PyData.showable] using h
  | .list xs, h => by simp only [fine] at h; simp only [PyData.showable]; exact fineAll_showable xs h
  | .tuple xs, h => by simp only [fine] at h; simp only [PyData.showable]; exact fineAll_showable xs h
  | .dict _, h => by simp [fine] at h
theorem fineAll_showable : ∀ xs : List PyData, fineAll xs = true → PyData.showableAll xs = true
  | [], _ => rfl
  | x :: xs, h => by
    simp only [fineAll, Bool.and_eq_true] at h
    simp only [PyData.showableAll, fine_showable x h.1, fineAll_showable xs h.2, Bool.and_self]
end
mutual
theorem fine_lay : ∀ d : PyData, fine d = true → d.canLay0 = true
  | .none, _ => rfl
  | .bool _, _ => rfl
  | .int _, _ => rfl
  | .str x, h => by
    simp only [fine, List.all_eq_true, decide_eq_true_eq] at h
    simp only [PyData.canLay0]
    show x.cps.all (· < 0x110000) = true
    rw [Array.all_eq_true_iff_forall_mem]
    intro c hc
    exact decide_eq_true (h c (Array.mem_toList_iff.mpr hc))
  | .list xs, h => by simp only [fine] at h; simp only [PyData.canLay0]; exact fineAll_lay xs h
  | .tuple xs, h => by simp only [fine] at h; simp only [PyData.canLay0]; exact fineAll_lay xs h
  | .dict _, h => by simp [fine] at h
theorem fineAll_lay : ∀ xs : List PyData, fineAll xs = true → PyData.canLayAll0 xs = true
  | [], _ => rfl
  | x :: xs, h => by
    simp only [fineAll, Bool.and_eq_true] at h
    simp only [PyData.canLayAll0, fine_lay x h.1, fineAll_lay xs h.2, Bool.and_self]
end
mutual
theorem shown_wt : ∀ d : PyData, fine d = true → d.shown.length ≤ wt d
  | .none, _ => by decide
  | .bool b, _ => by cases b <;> decide
  | .int i, h => by
    have e := int_text_fits (a := i) (by simpa [fine] using h)
    have e2 := PyProof.Rows.int_text_len_1921 (i := i) (by simpa [fine] using h)
    simp only [PyData.shown, wt]
    omega
  | .str x, h => by
    simp only [fine, List.all_eq_true, decide_eq_true_eq] at h
    have e := StrLaws.reprText_len x fun c hc => by
      have := h c hc
      have e8 : (16 : Nat) ^ 8 = 4294967296 := by decide
      omega
    simpa only [PyData.shown, wt] using e
  | .list xs, h => by
    simp only [fine] at h
    have h1 := shownAll_wt xs h
    have h2 := listText_len_le (PyData.shownAll xs)
    simp only [PyData.shown, wt]
    omega
  | .tuple xs, h => by
    simp only [fine] at h
    have h1 := shownAll_wt xs h
    have h2 := tupleText_len_le (PyData.shownAll xs)
    simp only [PyData.shown, wt]
    omega
  | .dict _, h => by simp [fine] at h
theorem shownAll_wt : ∀ xs : List PyData, fineAll xs = true → ((PyData.shownAll xs).map (·.length)).sum + 2 * (PyData.shownAll xs).length ≤ wtAll xs
  | [], _ => by simp [PyData.shownAll, wtAll]
  | x :: xs, h => by
    simp only [fineAll, Bool.and_eq_true] at h
    have h1 := shown_wt x h.1
    have h2 := shownAll_wt xs h.2
    simp only [PyData.shownAll, wtAll, List.map_cons, List.sum_cons, List.length_cons]
    omega
end
/-- may be shown and compared -/
def Ok (d : PyData) : Prop := fine d = true ∧ d.depth ≤ 60 ∧ wt d ≤ 16000000
theorem Ok.fits {d : PyData} (h : Ok d) : d.shown.length ≤ sizeLine := by
  have := shown_wt d h.1
  have := h.2.2
  rw [sizeLine_eq]
  omega
theorem Ok.nodict {d : PyData} (h : Ok d) : d.hasDict = false := PyData.hasDict_of_canLay d (fine_lay d h.1)
theorem Ok.shaped {d : PyData} (h : Ok d) : SeqAt.shaped d = true := by
  unfold SeqAt.shaped
  rw [fine_lay d h.1, Bool.true_and]
  exact decide_eq_true (Nat.le_trans h.2.1 (by decide))
end Tx
/-! ## What the kit's hand layer lacks for these laws: a def that is run where no repr is under way (guards), repr of data of any depth -/
namespace Tx
open PySem PySem.Spec PyProof.Rows L2

/-- a def's promise, asked only where nothing is being shown -/
structure FnG (P : Program) (w : World) (K : PySem.W.Frag) (mg : Str → Option Value) (base : Heap) (CX : CXT) (k : Nat)
    (f : Addr) (fd : FuncData) (ps : List Str) (sp : Sp) : Prop where
  len : ∀ vs H Q E, sp vs H Q E → vs.length = ps.length
  run : ∀ (A : Around) (out : List Env) (s : Shared) (H : Hp) (ar : Args) (us : List Value) (vs : List V) (Q : VK) (E : XK),
    Room k A → A.guards = some [] → Env0 P w K mg base A out s H → BindsTo s fd ar (ps.zip us) → Vals vs us → sp vs H Q E →
      codeAny (model P w) A (.call (.ref f) ar) (CR CX out P w H s Q E) s

section
variable {P : Program} {w : World} {K : PySem.W.Frag} {mg : Str → Option Value} {base : Heap} {CX : CXT} {k : Nat} {f : Addr} {fd : FuncData}
  {ps N : List Str} {sp : Sp} {x qual : Str} {st : Stmt}
theorem FnG.of (F : FnOk P w K mg base CX k f fd ps sp) : FnG P w K mg base CX k f fd ps sp :=
  ⟨F.len, fun A out s H ar us vs Q E r _ e b v h => F.run A out s H ar us vs Q E r e b v h⟩
theorem FnG.mono {j : Nat} (F : FnG P w K mg base CX j f fd ps sp) (h : j ≤ k) : FnG P w K mg base CX k f fd ps sp :=
  ⟨F.len, fun A out s H ar us vs Q E r g e b v q => F.run A out s H ar us vs Q E (r.mono h) g e b v q⟩

/-- from the body's reading to the promise -/
theorem okG (F : Fun K x qual st f fd) (S : FnScope N ps (defScope st)) (len : ∀ vs H Q E, sp vs H Q E → vs.length = ps.length)
    (body : ∀ (cv : Value) (A : Around) (out : List Env) (s : Shared) (H : Hp) (vs : List V) (Q : VK) (E : XK),
      Room k (A.deeper (envOfC qual (defScope st) s.heap.objs.size f cv)) → A.guards = some [] → sp vs H Q E →
      ∃ t, PSs (cxOf CX P w K mg base N qual (defScope st) f cv A out s H E) (defBody st) t ∧
        t { nx := fun _ H' => Q .non H', rt := Q } (start N vs) H) :
    FnG P w K mg base CX (k + 1) f fd ps sp := by
  obtain ⟨_, _, _, _, _, _, cv, _, _, rfl, at_f, code⟩ := F.ex
  refine ⟨len, fun A out s H ar us vs Q E room gd e0 bd rel ask => ?_⟩
  have inH : K.In s.heap := e0.mod.kin.keeps fun b o z => (e0.bs b o z).1
  have free : s.heap.NoLimit := e0.mod.nolimit.keeps fun b o z => (e0.bs b o z).1
  refine codeAny_call_function room.depth (inH _ _ at_f) rfl S.co S.gen rfl (PySem.W.codeRec_of inH code) (bd _ _ _ _ ?_)
  refine wpAny_newFunctionEnv_cells S.kind ?kinds ?entered
  case kinds =>
    rintro ⟨nm, val⟩ hz
    cases S.par nm (List.of_mem_zip hz).1 with
    | inl q => exact .inl q
    | inr q => exact .inr ⟨q, PySem.W.cellsFrom_some _ _ _ (.inl q)⟩
  case entered =>
    rintro env rfl s1 ic
    obtain ⟨t, pss, rd⟩ := body cv A out s H vs Q E (room.deeper _) gd ask
    have I := inv_start (CX := CX) (E := E) S room.hd e0 (len _ _ _ _ ask) rel ic
    refine ⟨free.keeps ic.toInCall.keep, codeAny_func (wpAny_mono (pss.run [] s1 (start N vs) H _ I rd) ?_ fun _ _ z => z)⟩
    intro fl s2 got
    cases fl with
    | next => obtain ⟨_, H2, J, q⟩ := got; exact ⟨.non, H2, J.os, J.bare, J.base, J.hok, rfl, q⟩
    | ret u => obtain ⟨v, _, H2, J, r, q⟩ := got; exact ⟨v, H2, J.os, J.bare, J.base, J.hok, r, q⟩
    | brk => obtain ⟨_, _, _, q⟩ := got; exact False.elim q
    | cont => obtain ⟨_, _, _, q⟩ := got; exact False.elim q

end
section
variable {X : Cx} {CX : CXT} {k : Nat} {f : Addr} {fd : FuncData} {ps : List Str} {sp : Sp} {dvs : List V} {ds : List Value} {E : XK}
  {x : Str} {p pos : Pos} {e : Expr} {es : List Expr} {t : TA}
/-- f(e, ..) of such a def -/
theorem pe_callG (F : FnG X.prog X.w X.K X.mg X.base CX k f fd ps sp) (room : Room k X.A) (gd : X.A.guards = some []) (gl : Gl X x) (at_f : X.mg x = some (.ref f))
    (kp : PySem.W.keepIn X.K (.ref f) = true) (bd : Binds X.K fd ps ds) (dv : Vals dvs ds) (out : Passes CX X E) (args : PA X (e :: es) t)
    (nd : (x == ("__debug__" : Str)) = false := by decide)
    (plain : starEach (e :: es) X.env = (false, eval e X.env) :: starEach es X.env := by rfl)
    (bare : (backTo pos (starEach es X.env)).any (·.1) = false := by rfl) :
    PE X (.Call (.Name x p) (e :: es) [] pos) (tCall sp dvs E t) := by
  constructor
  intro pins s σ H Q I ask
  refine wpAny_Call_Name_kw (ld_glob I gl at_f ?_ nd)
  refine PySem.W.callWith_K (h₀ := X.base) I.ok.mod.kin kp (thn (args.run pos pins s σ H _ I ask) ?_) plain bare
  rintro us s1 ⟨vs, H1, J, rel, q⟩
  refine ⟨J.kIn, ?_⟩
  have both : Vals (vs ++ dvs) (us ++ ds) := rel.append dv
  have full : (us ++ ds).length = ps.length := both.length.symm.trans (F.len _ _ _ _ q)
  refine wpAny_call (codeAny_mono (F.run X.A X.stack s1 H1 ⟨us, []⟩ (us ++ ds) (vs ++ dvs) Q E room gd J.env0 (bd s1 us J.kIn full) both q) ?_)
  intro r s2 got
  match r, got with
  | .ok (.ret u), got => exact J.after got
  | .ok .next, got => exact False.elim got
  | .ok .brk, got => exact False.elim got
  | .ok .cont, got => exact False.elim got
  | .error er, got => exact out pins σ H1 s1 er s2 J got
end

/-! ### the end of a law row -/
section
/-- the abstract heap at the law's entry: the script alone, locked, unless it is an object of the module -/
def entryH (K : PySem.W.Frag) (a : Addr) (o : Obj) (xs : List V) : Hp := fun b => if b = a ∧ K.lookup a = none then some (.frz o (.lst xs)) else none
theorem entryH_some {K : PySem.W.Frag} {a b : Addr} {o : Obj} {xs : List V} {u : HO} (h : entryH K a o xs b = some u) : b = a ∧ K.lookup a = none ∧ u = .frz o (.lst xs) := by
  unfold entryH at h
  split at h
  · rename_i c; exact ⟨c.1, c.2, (Option.some.inj h).symm⟩
  · cases h
theorem lawG {P : Program} {w : World} {K : PySem.W.Frag} {mg mb : Str → Option Value} {k : Nat} {fa a : Addr} {x : Str} {sp : Sp} {s : Shared} {vs : List Value} {ns : List Int}
    (inK : K.In s.heap) (gl : s.heap.Ns mainGlobals mg) (bl : s.heap.Ns builtinsNs mb) (boot : ∀ y : Str, y ≠ "__name__" → mb y = bootBuiltins y) (lim : s.heap.NoLimit) (gens : s.gens = #[])
    (ob : s.heap.get? a = some { cls := .type "list", data := .seq vs.toArray }) (iv : IntsAre vs ns) (small : ns.length ≤ sizeLine) (room : Room k callerA)
    (F : ∀ base : Heap, K.In base → base.Ns mainGlobals mg → ∃ fd : FuncData, FnG P w K mg base CX0 k fa fd [x] sp ∧ Binds K fd [x] [])
    (ask : ∀ H : Hp, SqL K H a (ns.map V.int) → sp [.ref a] H (fun v _ => v = .bl true) fun _ _ _ => False) :
    codeAny (model P w) callerA (.call (.ref fa) ⟨[.ref a], []⟩) (fun r s' => r = .ok (.ret (.bool true)) ∧ OldK s.heap s'.heap ∧ s'.os = s.os ∧ AllBare s'.gens) s := by
  have rel := vals_ints iv
  have same := iv.length
  let o : Obj := { cls := .type "list", data := .seq vs.toArray }
  let H := entryH K a o (ns.map V.int)
  have sq : SqL K H a (ns.map V.int) := by
    cases hk : K.lookup a with
    | none => exact .inl (.inr ⟨o, if_pos ⟨rfl, hk⟩⟩)
    | some u =>
      have z := inK a u hk
      rw [ob] at z
      cases z
      exact .inr ⟨_, vs.toArray, _, hk, rfl, rfl, rfl, (by rw [List.size_toArray, same]; exact small), by simpa using rel⟩
  have hok : HOk P w H s.heap := by
    intro b u z
    obtain ⟨rfl, _, rfl⟩ := entryH_some z
    exact ⟨ob, by rw [List.length_map]; exact small, vs, _, rel, ob⟩
  have shown : ∀ {b : Addr} {u : Obj}, s.heap.get? b = some u → (b = a → K.lookup a ≠ none) → (hidT s.heap H).get? b = some u := by
    intro b u z n
    refine hidT_get z ?_
    show entryH K a o (ns.map V.int) b = none
    unfold entryH
    rw [if_neg]
    exact fun c => n c.1 c.2
  have names : ∀ {b : Addr} {m : Str → Option Value}, s.heap.Ns b m → (hidT s.heap H).Ns b m := by
    rintro b m ⟨u, es, ep, z, dt, more⟩
    refine ⟨u, es, ep, shown z ?_, dt, more⟩
    rintro rfl
    rw [ob] at z
    cases z
    cases dt
  have inB : K.In (hidT s.heap H) := fun b u z => shown (inK b u z) (by rintro rfl n; rw [z] at n; cases n)
  have md : Mod K mg (hidT s.heap H) := ⟨inB, names gl, ⟨mb, names bl, boot⟩, by obtain ⟨mc, z1, z2⟩ := lim; exact ⟨mc, names z1, z2⟩⟩
  have e0 : Env0 P w K mg (hidT s.heap H) callerA [] s H :=
    { frames := rfl, mod := md, bs := fun b u z => of_hidT z, bsz := Nat.le_of_eq (hidT_size _ _), funs := trivial, frf := fun b z => (nomatch z), hok := hok, bare := .of_eq gens }
  obtain ⟨fd, FF, bd⟩ := F _ inB (names gl)
  refine codeAny_mono (FF.run callerA [] s H ⟨[.ref a], []⟩ [.ref a] [.ref a] _ _ room rfl e0 (bd s [.ref a] inK rfl) (.cons rfl .nil) (ask H sq)) ?_
  intro r s' got
  match r, got with
  | .error er, got => exact False.elim got
  | .ok .next, got => exact False.elim got
  | .ok .brk, got => exact False.elim got
  | .ok .cont, got => exact False.elim got
  | .ok (.ret u), ⟨v, H', os, bare, un, hok', r', q⟩ =>
    have q' : v = .bl true := q
    subst q'
    obtain rfl : u = Value.bool true := r'
    refine ⟨rfl, OldK.of_keep fun b ou z => ?_, os, bare⟩
    cases hb : H b with
    | none => exact un.keep b ou z hb (fun y => nomatch y) (by simp)
    | some hu =>
      obtain ⟨rfl, _, rfl⟩ := entryH_some hb
      have z2 := hok' _ _ (un.frzs _ _ _ hb)
      rw [ob] at z
      cases z
      exact z2.1

/-- what k_head leaves, from the law's promise -/
theorem walkG {l : PySem.W.OpenLaw} {k : Nat} {q : Program} {loose : List Str} {XP : (Str → Option Value) → Heap → Prop} {YP : World → Heap → Prop} {d : DefRec} {K : Params → PySem.W.Frag} {sp : PySem.W.Frag → Sp} {x : Str}
    (most : l.most = some 63) (df : d.params.defaults = []) (room : Room k callerA) (inY : ∀ (w : World) (h : Heap), YP w h → (K w.params).In h)
    (F : ∀ (w : World) (mg : Str → Option Value) (fa : Addr) (h : Heap), (K w.params).In h → h.Ns mainGlobals mg → mg d.name = some (.ref fa) →
        ∀ base : Heap, (K w.params).In base → base.Ns mainGlobals mg → ∃ fd : FuncData, FnG l.prog w (K w.params) mg base CX0 k fa fd [x] (sp (K w.params)) ∧ Binds (K w.params) fd [x] [])
    (ask : ∀ (K : PySem.W.Frag) (H : Hp) (a : Addr) (ns : List Int), ns.length ≤ 63 → SqL K H a (ns.map V.int) → sp K [.ref a] H (fun v _ => v = .bl true) fun _ _ _ => False) :
    PySem.W.WalkO q loose XP YP l.row.toRowW d [] (fun f vs => PySem.call f vs) := by
  refine Att.attach_call most df ?_
  intro w s0 s mg mb fa o pm cd doc a vs ns G Y ho hd hcd hmg ob iv hlen gens
  exact lawG (inY w _ Y) G.T.g G.T.b G.T.builtins G.T.nolimit gens ob iv (Nat.le_trans hlen (by decide)) room (F w mg fa _ (inY w _ Y) G.T.g hmg) fun H hS => ask _ H a ns hlen hS
end

/-! ### repr of data, isinstance of data -/
section
variable {K : PySem.W.Frag} {H H' : Hp}
theorem Same.sqT {a : Addr} {xs : List V} (e : Same H H') (h : SqT K H a xs) : SqT K H' a xs := by
  rcases h with (h | ⟨o, h⟩) | h
  · exact .inl (.inl (e _ _ h))
  · exact .inl (.inr ⟨o, e _ _ h⟩)
  · exact .inr h
mutual
theorem dp_mono (e : Same H H') : ∀ (d : PyData) (v : V), Dp K H v d → Dp K H' v d
  | .none, _, h => by cases h; exact .non
  | .bool b, _, h => by cases h; exact .bl b
  | .int i, _, h => by cases h; exact .int i
  | .str x, _, h => by cases h; exact .str x
  | .list ds, _, h => by
    cases h with
    | lst hs ha => exact .lst (e.seq hs) (dpAll_mono e ds _ ha)
  | .tuple ds, _, h => by
    cases h with
    | tup hs ha => exact .tup (Same.sqT e hs) (dpAll_mono e ds _ ha)
  | .dict _, _, h => by cases h
theorem dpAll_mono (e : Same H H') : ∀ (ds : List PyData) (vs : List V), DpAll K H vs ds → DpAll K H' vs ds
  | [], _, h => by cases h; exact .nil
  | d :: ds, _, h => by
    cases h with
    | cons h1 h2 => exact .cons (dp_mono e d _ h1) (dpAll_mono e ds _ h2)
end
theorem DpAll.length : ∀ {ds : List PyData} {vs : List V}, DpAll K H vs ds → vs.length = ds.length
  | _, _, .nil => rfl
  | _, _, .cons _ t => by rw [List.length_cons, List.length_cons, DpAll.length t]
theorem DpAll.get : ∀ {ds : List PyData} {vs : List V} {i : Nat} {v : V}, DpAll K H vs ds → vs[i]? = some v → ∃ d, ds[i]? = some d ∧ Dp K H v d
  | _, _, _, _, .nil, e => by simp at e
  | _, _, 0, _, .cons h _, e => by simp at e; subst e; exact ⟨_, rfl, h⟩
  | _, _, i + 1, v, .cons _ t, e => by
    obtain ⟨d, h1, h2⟩ := DpAll.get (i := i) (v := v) t (by simpa using e)
    exact ⟨d, by simpa using h1, h2⟩
theorem DpAll.append : ∀ {ds es : List PyData} {vs ws : List V}, DpAll K H vs ds → DpAll K H ws es → DpAll K H (vs ++ ws) (ds ++ es)
  | _, _, _, _, .nil, h => h
  | _, _, _, _, .cons h t, g => .cons h (DpAll.append t g)
theorem DpAll.one {v : V} {d : PyData} (h : Dp K H v d) : DpAll K H [v] [d] := .cons h .nil
theorem DpAll.take : ∀ {ds : List PyData} {vs : List V} (n : Nat), DpAll K H vs ds → DpAll K H (vs.take n) (ds.take n)
  | _, _, 0, _ => by simpa using DpAll.nil
  | _, _, _ + 1, .nil => .nil
  | _, _, n + 1, .cons h t => .cons h (DpAll.take n t)
theorem DpAll.drop : ∀ {ds : List PyData} {vs : List V} (n : Nat), DpAll K H vs ds → DpAll K H (vs.drop n) (ds.drop n)
  | _, _, 0, h => by simpa using h
  | _, _, _ + 1, .nil => .nil
  | _, _, n + 1, .cons _ t => DpAll.drop n t
/-- the name of its class -/
def tyN : PyData → String
  | .none => "NoneType"
  | .bool _ => "bool"
  | .int _ => "int"
  | .str _ => "str"
  | .list _ => "list"
  | .tuple _ => "tuple"
  | .dict _ => "dict"
theorem tyx_of {v : V} {d : PyData} (h : Dp K H v d) : TyX K H v (.type (tyN d)) := by
  cases h with
  | non => exact .base .non
  | bl b => exact .base (.bl b)
  | int i => exact .base (.int i)
  | str x => exact .base (.str x)
  | lst hs _ =>
    rcases hs with (h | ⟨o, h⟩) | ⟨o, its, n, h, hc, _⟩
    · exact .base (.lst h)
    · exact .base (.frz h)
    · exact .kList h hc
  | tup hs _ =>
    rcases hs with (h | ⟨o, h⟩) | ⟨o, its, n, h, hc, _⟩
    · exact .base (.tup h)
    · exact .fTuple h
    · exact .kTuple h hc
end
section
variable {X : Cx}
/-- repr(v), v data -/
def rRepr (K : PySem.W.Frag) : List V → Hp → VK → Prop := fun xs H Q => ∃ (v : V) (d : PyData), xs = [v] ∧ Dp K H v d ∧ Ok d ∧ Q (.str d.shown) H
theorem call_repr (gd : X.A.guards = some []) (hu : X.A.units + 64 < cLine) : CallR X (.builtin "repr") (rRepr X.K) := by
  intro pins s σ H xs us Q I rel ask
  obtain ⟨v, d, rfl, hd, ok, q⟩ := ask
  cases rel with
  | @cons _ u _ _ r1 r2 =>
    cases r2
    obtain ⟨as, rd⟩ := Dp.reads I d v u hd r1
    have big : ∀ a, u = Value.ref a → wpAny (model X.prog X.w) X.A (call (.builtin "repr") [u]) (EP X pins σ Q) X.xe s := by
      rintro a rfl
      refine repr_of_reads' rd (fine_showable d ok.1) (PyData.noDict_hsm ok.nodict) gd (by have := ok.2.1; omega) (fun _ _ z => z) (fun h' t tk hk => ?_) ok.fits
      exact ⟨.str d.shown, H, I.kept (t' := tk) hk, ⟨t, rfl⟩, q⟩
    cases hd with
    | non =>
      obtain rfl : u = Value.none := r1
      exact PySem.P.repr_of_none ⟨.str _, H, I.tok _, ⟨_, rfl⟩, q⟩
    | bl b =>
      obtain rfl : u = Value.bool b := r1
      refine PySem.P.repr_of_bool ⟨.str _, H, I.tok _, ⟨s.toks, ?_⟩, q⟩
      cases b <;> rfl
    | int i =>
      obtain ⟨t, rfl⟩ := r1
      exact PySem.P.repr_of_int (by simpa [fine] using ok.1) ⟨.str _, H, I.tok _, ⟨_, rfl⟩, q⟩
    | str x =>
      obtain ⟨t, rfl⟩ := r1
      exact PySem.P.repr_of_str ⟨.str _, H, I.tok _, ⟨_, rfl⟩, q⟩ ok.fits
    | lst _ _ => exact big _ r1
    | tup _ _ => exact big _ r1
end
section
variable {X : Cx}
/-- isinstance(v, T), v data, T a built-in class -/
def rIsD (K : PySem.W.Frag) (T : String) : List V → Hp → VK → Prop := fun xs H Q => ∃ (v : V) (d : PyData) (b : Bool), xs = [v, .ty T] ∧ Dp K H v d ∧ kitB (tyN d) T = some b ∧ Q (.bl b) H
theorem call_isD {T : String} : CallR X (.builtin "isinstance") (rIsD X.K T) := by
  intro pins s σ H xs us Q I rel ask
  obtain ⟨v, d, b, rfl, hd, e, q⟩ := ask
  exact call_isi pins s σ H _ us Q I rel ⟨v, .ty T, .type (tyN d), .type T, b, rfl, .ty T, tyx_of hd, kit_ty e, q⟩
end
def isL : PyData → Bool
  | .list _ => true
  | _ => false
def isS : PyData → Bool
  | .str _ => true
  | _ => false
def isI : PyData → Bool
  | .int _ => true
  | .bool _ => true
  | _ => false
def isB : PyData → Bool
  | .bool _ => true
  | _ => false
def isT : PyData → Bool
  | .tuple _ => true
  | _ => false
theorem kit_list : ∀ d : PyData, kitB (tyN d) "list" = some (isL d)
  | .none => (by decide +kernel : kitB "NoneType" "list" = some false)
  | .bool _ => (by decide +kernel : kitB "bool" "list" = some false)
  | .int _ => (by decide +kernel : kitB "int" "list" = some false)
  | .str _ => (by decide +kernel : kitB "str" "list" = some false)
  | .list _ => (by decide +kernel : kitB "list" "list" = some true)
  | .tuple _ => (by decide +kernel : kitB "tuple" "list" = some false)
  | .dict _ => (by decide +kernel : kitB "dict" "list" = some false)
theorem kit_str : ∀ d : PyData, kitB (tyN d) "str" = some (isS d)
  | .none => (by decide +kernel : kitB "NoneType" "str" = some false)
  | .bool _ => (by decide +kernel : kitB "bool" "str" = some false)
  | .int _ => (by decide +kernel : kitB "int" "str" = some false)
  | .str _ => (by decide +kernel : kitB "str" "str" = some true)
  | .list _ => (by decide +kernel : kitB "list" "str" = some false)
  | .tuple _ => (by decide +kernel : kitB "tuple" "str" = some false)
  | .dict _ => (by decide +kernel : kitB "dict" "str" = some false)
theorem kit_int : ∀ d : PyData, kitB (tyN d) "int" = some (isI d)
  | .none => (by decide +kernel : kitB "NoneType" "int" = some false)
  | .bool _ => (by decide +kernel : kitB "bool" "int" = some true)
  | .int _ => (by decide +kernel : kitB "int" "int" = some true)
  | .str _ => (by decide +kernel : kitB "str" "int" = some false)
  | .list _ => (by decide +kernel : kitB "list" "int" = some false)
  | .tuple _ => (by decide +kernel : kitB "tuple" "int" = some false)
  | .dict _ => (by decide +kernel : kitB "dict" "int" = some false)
theorem kit_bool : ∀ d : PyData, kitB (tyN d) "bool" = some (isB d)
  | .none => (by decide +kernel : kitB "NoneType" "bool" = some false)
  | .bool _ => (by decide +kernel : kitB "bool" "bool" = some true)
  | .int _ => (by decide +kernel : kitB "int" "bool" = some false)
  | .str _ => (by decide +kernel : kitB "str" "bool" = some false)
  | .list _ => (by decide +kernel : kitB "list" "bool" = some false)
  | .tuple _ => (by decide +kernel : kitB "tuple" "bool" = some false)
  | .dict _ => (by decide +kernel : kitB "dict" "bool" = some false)
theorem kit_tuple : ∀ d : PyData, kitB (tyN d) "tuple" = some (isT d)
  | .none => (by decide +kernel : kitB "NoneType" "tuple" = some false)
  | .bool _ => (by decide +kernel : kitB "bool" "tuple" = some false)
  | .int _ => (by decide +kernel : kitB "int" "tuple" = some false)
  | .str _ => (by decide +kernel : kitB "str" "tuple" = some false)
  | .list _ => (by decide +kernel : kitB "list" "tuple" = some false)
  | .tuple _ => (by decide +kernel : kitB "tuple" "tuple" = some true)
  | .dict _ => (by decide +kernel : kitB "dict" "tuple" = some false)
end Tx

/-! ## The text's names; what a call needs -/
namespace Tx
open PySem PySem.Spec PyProof.Rows L2

/-- the built-in names that the texts use are not the module's -/
structure Bi (mg : Str → Option Value) : Prop where
  len : mg "len" = none
  int : mg "int" = none
  abs : mg "abs" = none
  range : mg "range" = none
  enumerate : mg "enumerate" = none
  min : mg "min" = none
  max : mg "max" = none
  isinstance : mg "isinstance" = none
  repr : mg "repr" = none
  sum : mg "sum" = none
  all : mg "all" = none
  any : mg "any" = none
  list : mg "list" = none
  str : mg "str" = none
  tuple : mg "tuple" = none
  bool : mg "bool" = none
  sorted : mg "sorted" = none
  ValueError : mg "ValueError" = none
theorem bi_of {K : PySem.W.Frag} {mg : Str → Option Value} {h : Heap} (X : K.In h) (G : h.Ns mainGlobals mg)
    (z0 : PySem.W.nsIn K mainGlobals "len" = some none)
    (z1 : PySem.W.nsIn K mainGlobals "int" = some none)
    (z2 : PySem.W.nsIn K mainGlobals "abs" = some none)
    (z3 : PySem.W.nsIn K mainGlobals "range" = some none)
    (z4 : PySem.W.nsIn K mainGlobals "enumerate" = some none)
    (z5 : PySem.W.nsIn K mainGlobals "min" = some none)
    (z6 : PySem.W.nsIn K mainGlobals "max" = some none)
    (z7 : PySem.W.nsIn K mainGlobals "isinstance" = some none)
    (z8 : PySem.W.nsIn K mainGlobals "repr" = some none)
    (z9 : PySem.W.nsIn K mainGlobals "sum" = some none)
    (z10 : PySem.W.nsIn K mainGlobals "all" = some none)
    (z11 : PySem.W.nsIn K mainGlobals "any" = some none)
    (z12 : PySem.W.nsIn K mainGlobals "list" = some none)
    (z13 : PySem.W.nsIn K mainGlobals "str" = some none)
    (z14 : PySem.W.nsIn K mainGlobals "tuple" = some none)
    (z15 : PySem.W.nsIn K mainGlobals "bool" = some none)
    (z16 : PySem.W.nsIn K mainGlobals "sorted" = some none)
    (z17 : PySem.W.nsIn K mainGlobals "ValueError" = some none) : Bi mg :=
  ⟨PySem.W.mg_none_of X G z0, PySem.W.mg_none_of X G z1, PySem.W.mg_none_of X G z2, PySem.W.mg_none_of X G z3, PySem.W.mg_none_of X G z4, PySem.W.mg_none_of X G z5, PySem.W.mg_none_of X G z6, PySem.W.mg_none_of X G z7, PySem.W.mg_none_of X G z8, PySem.W.mg_none_of X G z9, PySem.W.mg_none_of X G z10, PySem.W.mg_none_of X G z11, PySem.W.mg_none_of X G z12, PySem.W.mg_none_of X G z13, PySem.W.mg_none_of X G z14, PySem.W.mg_none_of X G z15, PySem.W.mg_none_of X G z16, PySem.W.mg_none_of X G z17⟩
/-- what a body's context gives to its calls -/
structure Ct (mg : Str → Option Value) (A : Around) (k : Nat) : Prop where
  b : Bi mg
  r : Room k A
  g : A.guards = some []
theorem Ct.mono {mg : Str → Option Value} {A : Around} {j k : Nat} (c : Ct mg A k) (h : j ≤ k) : Ct mg A j := ⟨c.b, c.r.mono h, c.g⟩
/-- a def of the module -/
def Has (K : PySem.W.Frag) (mg : Str → Option Value) (x : Str) (st : Stmt) : Prop := ∃ (f : Addr) (fd : FuncData), Fun K x x st f fd ∧ mg x = some (.ref f)
theorem has_of {K : PySem.W.Frag} {mg : Str → Option Value} {h : Heap} {x : Str} {st : Stmt} {f : Addr} {oc kV dc pm cd ct : Value} {od an : Option Addr} {sl : Array (Option Value)} (X : K.In h) (G : h.Ns mainGlobals mg)
    (a : PySem.W.nsIn K mainGlobals x = some (some (.ref f)))
    (l : K.lookup f = some ⟨oc, od, .func (PySem.W.fnOf x x (defArgs st) (defBody st) (defScope st) .none kV dc pm an cd ct), sl⟩)
    (c : PySem.W.codeIn K cd x = true) (k : PySem.W.keepIn K (.ref f) = true) : Has K mg x st :=
  ⟨f, _, fun_mk l c k, PySem.W.mg_of X G a⟩
/-- a def of the module and its promise -/
def Dfn (P : Program) (w : World) (K : PySem.W.Frag) (mg : Str → Option Value) (base : Heap) (CX : CXT) (k : Nat) (x : Str) (ps : List Str) (sp : Sp) : Prop :=
  ∃ (f : Addr) (fd : FuncData), FnG P w K mg base CX k f fd ps sp ∧ mg x = some (.ref f) ∧ PySem.W.keepIn K (.ref f) = true ∧ Binds K fd ps []
section
variable {P : Program} {w : World} {K : PySem.W.Frag} {mg : Str → Option Value} {base : Heap} {CX : CXT} {k : Nat} {x : Str} {ps N : List Str} {sp : Sp} {st : Stmt}
theorem Dfn.mono {j : Nat} (D : Dfn P w K mg base CX j x ps sp) (h : j ≤ k) : Dfn P w K mg base CX k x ps sp := by
  obtain ⟨f, fd, F, r⟩ := D
  exact ⟨f, fd, F.mono h, r⟩
/-- how the arguments bind: one pattern a number of parameters -/
def BindsBy (x : Str) (st : Stmt) (ps : List Str) : Prop := ∀ (kV doc pm : Value) (an : Option Addr) (cdv ct : Value) (us : List Value), us.length = ps.length →
  bindArgs (PySem.W.fnOf x x (defArgs st) (defBody st) (defScope st) .none kV doc pm an cdv ct) ⟨us, []⟩ = pure (ps.zip us)
/-- a def that lets nothing out, by its body -/
theorem dfn0 (h : Has K mg x st) (B : Bi mg) (S : FnScope N ps (defScope st)) (bd : BindsBy x st ps) (len : ∀ vs H Q E, sp vs H Q E → vs.length = ps.length)
    (body : ∀ (f : Addr) (cv : Value) (A : Around) (out : List Env) (s : Shared) (H : Hp) (vs : List V) (Q : VK) (E : XK),
      Ct mg (A.deeper (envOfC x (defScope st) s.heap.objs.size f cv)) k → sp vs H Q E →
      ∃ t, PSs (cxOf CX0 P w K mg base N x (defScope st) f cv A out s H E).nox (defBody st) t ∧
        t { nx := fun _ H' => Q .non H', rt := Q } (start N vs) H) :
    Dfn P w K mg base CX0 (k + 1) x ps sp := by
  obtain ⟨f, fd, F, m⟩ := h
  refine ⟨f, fd, okG F S len ?_, m, F.kp, F.binds bd⟩
  intro cv A out s H vs Q E room gd ask
  obtain ⟨t, p, q⟩ := body f cv A out s H vs Q E ⟨B, room, gd⟩ ask
  exact ⟨t, p.nox, q⟩
/-- a def that may raise -/
theorem dfnX (h : Has K mg x st) (B : Bi mg) (S : FnScope N ps (defScope st)) (bd : BindsBy x st ps) (len : ∀ vs H Q E, sp vs H Q E → vs.length = ps.length)
    (body : ∀ (f : Addr) (cv : Value) (A : Around) (out : List Env) (s : Shared) (H : Hp) (vs : List V) (Q : VK) (E : XK),
      Ct mg (A.deeper (envOfC x (defScope st) s.heap.objs.size f cv)) k → sp vs H Q E →
      ∃ t, PSs (cxOf (L2.CX P w) P w K mg base N x (defScope st) f cv A out s H E) (defBody st) t ∧
        t { nx := fun _ H' => Q .non H', rt := Q } (start N vs) H) :
    Dfn P w K mg base (L2.CX P w) (k + 1) x ps sp := by
  obtain ⟨f, fd, F, m⟩ := h
  refine ⟨f, fd, okG F S len ?_, m, F.kp, F.binds bd⟩
  intro cv A out s H vs Q E room gd ask
  exact body f cv A out s H vs Q E ⟨B, room, gd⟩ ask
end
section
variable {X : Cx} {CX : CXT} {j k : Nat} {ps : List Str} {sp : Sp} {E : XK} {x : Str} {p pos : Pos} {e : Expr} {es : List Expr} {t : TA}
/-- f(e, ..), f a def of the module -/
theorem pe_d (D : Dfn X.prog X.w X.K X.mg X.base CX0 j x ps sp) (c : Ct X.mg X.A k) (h : j ≤ k) (gl : Gl X x) (args : PA X (e :: es) t)
    (nd : (x == ("__debug__" : Str)) = false := by decide)
    (plain : starEach (e :: es) X.env = (false, eval e X.env) :: starEach es X.env := by rfl)
    (bare : (backTo pos (starEach es X.env)).any (·.1) = false := by rfl) :
    PE X (.Call (.Name x p) (e :: es) [] pos) (tCall sp [] E0 t) := by
  obtain ⟨f, fd, F, m, kp, bd⟩ := D
  exact pe_callG F (c.r.mono h) c.g gl m kp bd .nil pass0 args nd plain bare
end
/-- the law's own def, for the end -/
theorem to_law {P : Program} {w : World} {K : PySem.W.Frag} {mg : Str → Option Value} {base : Heap} {k : Nat} {x y : Str} {sp : Sp} {fa : Addr} (m : mg x = some (.ref fa)) (D : Dfn P w K mg base CX0 k x [y] sp) :
    ∃ fd : FuncData, FnG P w K mg base CX0 k fa fd [y] sp ∧ Binds K fd [y] [] := by
  obtain ⟨f, fd, F, m2, _, bd⟩ := D
  rw [m] at m2
  cases m2
  exact ⟨fd, F, bd⟩
/-! ### heaps -/
/-- of all addresses but b, what stood stands -/
def SameBut (b : Addr) (H H' : Hp) : Prop := ∀ a o, a ≠ b → H a = some o → H' a = some o
theorem SameBut.refl {b : Addr} {H : Hp} : SameBut b H H := fun _ _ _ h => h
theorem SameBut.trans {b : Addr} {H H1 H2 : Hp} (h : SameBut b H H1) (g : SameBut b H1 H2) : SameBut b H H2 := fun a o n e => g a o n (h a o n e)
theorem SameBut.of {b : Addr} {H H' : Hp} (h : Same H H') : SameBut b H H' := fun a o _ e => h a o e
theorem same_new {H : Hp} {p : Addr} (h : H p = none) (o : HO) : Same H (upd H p o) := fun b u q => by rw [upd_ne (ne_of_none q h)]; exact q
theorem sameBut_upd {H : Hp} {b : Addr} {o : HO} : SameBut b H (upd H b o) := fun a u n e => by rw [upd_ne n]; exact e
end Tx

/-! ## The law's draws: any number below the bound; the bag, a list of two numbers at b, changes -/
namespace Tx
open PySem PySem.Spec PyProof.Rows L2
def top (i : Nat) : Stmt := PySem.Challenge.pw_textorlist_k01_values_checked.main.body.getD i (.Pass ⟨0, 0, 0, 0⟩)
abbrev sTake : Stmt := top 13
theorem scTake : FnScope ["_law_bag_here", "_law_many", "_law_digit"] ["_law_bag_here", "_law_many"] (defScope sTake) := ⟨rfl, rfl, rfl, by decide +kernel, rfl, by decide +kernel, by decide +kernel⟩
abbrev sBag : Stmt := top 12
theorem scBag : FnScope ["_law_script", "_law_at", "_law_cell", "_law_mixed", "_law_place", "_law_each"] ["_law_script", "_law_at"] (defScope sBag) := ⟨rfl, rfl, rfl, by decide +kernel, rfl, by decide +kernel, by decide +kernel⟩
theorem cutV_get {xs : List V} {lo hi : Option Int} {i : Nat} {v : V} (h : (cutV xs lo hi)[i]? = some v) : ∃ j : Nat, xs[j]? = some v := by
  unfold cutV at h
  rw [List.getElem?_take] at h
  split at h
  · rw [List.getElem?_drop] at h
    exact ⟨_, h⟩
  · cases h
theorem atI_of {α : Type} {xs : List α} {i : Int} (h0 : 0 ≤ i) (h1 : i < (xs.length : Int)) : ∃ v, atI xs i = some v ∧ xs[i.toNat]? = some v := by
  obtain ⟨n, rfl⟩ := Int.eq_ofNat_of_zero_le h0
  have hn : n < xs.length := by omega
  have e : xs[n]? = some xs[n] := List.getElem?_eq_getElem hn
  exact ⟨_, atI_nat e, e⟩
theorem int_of_get {ns : List Int} {j : Nat} {v : V} (h : (ns.map V.int)[j]? = some v) : ∃ z, v = V.int z := by
  rw [List.getElem?_map] at h
  cases e : ns[j]? with
  | none => rw [e] at h; cases h
  | some z => rw [e] at h; exact ⟨z, (Option.some.inj h).symm⟩
/-- the bag stands at b -/
def Bag (H : Hp) (b : Addr) : Prop := ∃ c m : Int, H b = some (.lst [.int c, .int m])
/-- from H to H' the bag at b may have changed, and there may be new things -/
structure Stp (b : Addr) (H H' : Hp) : Prop where
  bag : Bag H' b
  keep : SameBut b H H'
theorem Stp.trans {b : Addr} {H H1 H2 : Hp} (x : Stp b H H1) (y : Stp b H1 H2) : Stp b H H2 := ⟨y.bag, x.keep.trans y.keep⟩
theorem Stp.new {b p : Addr} {H H1 : Hp} (x : Stp b H H1) (h : H1 p = none) (o : HO) : Stp b H (upd H1 p o) := by
  obtain ⟨c, m, e⟩ := x.bag
  exact ⟨⟨c, m, by rw [upd_ne (ne_of_none e h)]; exact e⟩, x.keep.trans (SameBut.of (same_new h o))⟩
theorem Stp.refl {b : Addr} {H : Hp} (h : Bag H b) : Stp b H H := ⟨h, SameBut.refl⟩
theorem Stp.same {b : Addr} {H H1 H2 : Hp} (x : Stp b H H1) (y : Same H1 H2) : Stp b H H2 := by
  obtain ⟨c, m, e⟩ := x.bag
  exact ⟨⟨c, m, y _ _ e⟩, x.keep.trans (SameBut.of y)⟩
/-- take(bag, n): a number from 0 to n - 1 -/
def spTake : Sp := fun vs H Q _ => ∃ (b : Addr) (n : Int), vs = [.ref b, .int n] ∧ Bag H b ∧ 0 < n ∧ n < 1073741824 ∧
  ∀ (r : Int) (H' : Hp), 0 ≤ r → r < n → Stp b H H' → Q (.int r) H'
/-- bag(script, at): a new bag -/
def spBag (K : PySem.W.Frag) : Sp := fun vs H Q _ => ∃ (a : Addr) (ns : List Int) (i : Int), vs = [.ref a, .int i] ∧ SqL K H a (ns.map V.int) ∧ 0 ≤ i ∧ i < 1000 ∧
  ∀ (b : Addr) (H' : Hp), Same H H' → H b = none → Bag H' b → Q (.ref b) H'
section
variable {P : Program} {w : World} {K : PySem.W.Frag} {mg : Str → Option Value} {base : Heap}
theorem d_take (h : Has K mg "_law_take" sTake) (B : Bi mg) : Dfn P w K mg base CX0 1 "_law_take" ["_law_bag_here", "_law_many"] spTake := by
  refine dfn0 h B scTake (fun _ _ _ _ _ _ us hl => match us, hl with | [_, _], _ => rfl) (fun vs H Q E h => ?_) (fun f cv A out s H vs Q E c h => ?_)
  · obtain ⟨b, n, rfl, _⟩ := h
    rfl
  obtain ⟨b, n, rfl, ⟨x, m, hb⟩, n0, n1, q⟩ := h
  refine ⟨_, (pss_cons (ps_if (pt_cmpR op_gt (pe_ix ix_list (pv 0) pe_int (fun _ _ => rfl)) pe_int (nomark _)) (pss_cons (ps_set (i := 2) scTake.nd rfl (Or.inl rfl) (pe_op op_mod (pe_callTy call_int1 (by rfl) c.b.int (by decide +kernel) (pa_cons (pe_ix ix_list (pv 0) pe_int (fun _ _ => rfl)) pa_nil)) (pv 1)))
    (pss_cons (ps_asg (pe_op op_fdiv (pe_ix ix_list (pv 0) pe_int (fun _ _ => rfl)) (pv 1)) (pg_sub (pv 0) pe_int set_list))
    (pss_one (ps_ret (pv 2))))) pss_nil)
    (pss_cons (ps_asg (pe_op op_mod (pe_callTy call_int1 (by rfl) c.b.int (by decide +kernel) (pa_cons (pe_op op_add (pe_op op_mul (pe_ix ix_list (pv 0) pe_int (fun _ _ => rfl)) pe_int) pe_int) pa_nil)) pe_int) (pg_sub (pv 0) pe_int set_list))
    (pss_one (ps_ret (pe_op op_mod (pe_op op_fdiv (pe_op op_mod (pe_callTy call_int1 (by rfl) c.b.int (by decide +kernel) (pa_cons (pe_op op_mul (pe_op op_fdiv (pe_ix ix_list (pv 0) pe_int (fun _ _ => rfl)) pe_int) pe_int) pa_nil)) pe_int) pe_int) (pv 1)))))), ?_⟩
  refine ⟨_, rfl, b, _, _, _, rfl, rfl, SqL.of hb, atI_nat rfl, _, _, rfl, rfl, _, rfl, ?_⟩
  refine ite2 (fun _ => ?_) (fun _ => ?_)
  · refine ⟨_, rfl, b, _, _, _, rfl, rfl, SqL.of hb, atI_nat rfl, .inl ⟨_, rfl, ?_⟩⟩
    refine ⟨_, rfl, _, _, rfl, rfl, n0, ?_⟩
    refine ⟨_, rfl, b, _, _, _, rfl, rfl, SqL.of hb, atI_nat rfl, _, rfl, _, _, rfl, rfl, ⟨n0, n1⟩, ?_⟩
    refine ⟨_, rfl, b, _, _, 0, rfl, rfl, hb, rfl, ?_⟩
    refine ⟨_, rfl, q _ _ (Int.emod_nonneg _ (by omega)) (Int.emod_lt_of_pos _ n0) ⟨⟨_, _, upd_same⟩, sameBut_upd⟩⟩
  · refine ⟨_, rfl, b, _, _, _, rfl, rfl, SqL.of hb, atI_nat rfl, _, _, rfl, rfl, .inr ⟨by decide, by decide⟩, _, _, rfl, rfl, .inl ⟨_, rfl, ?_⟩⟩
    refine ⟨_, _, rfl, rfl, (by show (0 : Int) < 2147483629; decide), ?_⟩
    refine ⟨_, rfl, b, _, _, 1, rfl, rfl, hb, rfl, ?_⟩
    refine ⟨_, rfl, b, _, _, _, rfl, rfl, SqL.of upd_same, atI_nat rfl, _, _, rfl, rfl, ⟨by decide, by decide⟩, _, _, rfl, rfl, .inr ⟨by decide, by decide⟩, .inl ⟨_, rfl, ?_⟩⟩
    refine ⟨_, _, rfl, rfl, (by show (0 : Int) < 2147483587; decide), _, _, rfl, rfl, ⟨by decide, by decide⟩, _, rfl, _, _, rfl, rfl, n0, ?_⟩
    exact q _ _ (Int.emod_nonneg _ (by omega)) (Int.emod_lt_of_pos _ n0) ⟨⟨_, _, upd_same⟩, sameBut_upd⟩
theorem d_bag (h : Has K mg "_law_bag" sBag) (B : Bi mg) : Dfn P w K mg base CX0 1 "_law_bag" ["_law_script", "_law_at"] (spBag K) := by
  refine dfn0 h B scBag (fun _ _ _ _ _ _ us hl => match us, hl with | [_, _], _ => rfl) (fun vs H Q E h => ?_) (fun f cv A out s H vs Q E c h => ?_)
  · obtain ⟨a, ns, i, rfl, _⟩ := h
    rfl
  obtain ⟨a, ns, i, rfl, hS, i0, i1, q⟩ := h
  refine ⟨_, (pss_cons (ps_par (i := 2) (j := 3) rfl scBag.nd rfl rfl (by decide) rfl rfl (pa_cons (pe_ifExp (pt_cmpR op_lt (pv 1) (pe_callB call_len_seq (by rfl) c.b.len PySem.boot_len (pa_cons (pv 0) pa_nil)) (nomark _)) (pe_callB call_abs (by rfl) c.b.abs (by decide +kernel) (pa_cons (pe_ix ix_list (pv 0) (pv 1) (fun _ _ => rfl)) pa_nil)) pe_int) (pa_cons (pe_op op_add (pe_op op_mul pe_int (pv 1)) pe_int) pa_nil)) (by rfl))
    (pss_cons (ps_for PassesOwn.never rfl (pi_enum (by rfl) c.b.enumerate (pa_cons (pe_slice sl_list (pv 0) po_none (po_some pe_int)) pa_nil)) (pg_tup rfl (pgs_cons (pg_name (i := 4) scBag.nd rfl (Or.inl rfl)) (pgs_cons (pg_name (i := 5) scBag.nd rfl (Or.inl rfl)) pgs_nil)))
    (pss_one (ps_set (i := 3) scBag.nd rfl (Or.inl rfl) (pe_op op_mod (pe_callTy call_int1 (by rfl) c.b.int (by decide +kernel) (pa_cons (pe_op op_add (pe_op op_add (pe_op op_mul (pv 3) pe_int) (pe_op op_mod (pe_callTy call_int1 (by rfl) c.b.int (by decide +kernel) (pa_cons (pv 5) pa_nil)) pe_int)) (pe_op op_mul pe_int (pv 4))) pa_nil)) pe_int))))
    (pss_one (ps_ret (pe_lst (pa_cons (pe_ifExp (pt_cmpR op_ge (pv 2) (pe_op op_pow pe_int pe_int) (nomark _)) (pv 2) pe_int) (pa_cons (pv 3) pa_nil))))))), ?_⟩
  have hl : (ns.map V.int).length = ns.length := List.length_map _
  refine ⟨_, rfl, _, rfl, a, _, rfl, .inl hS, _, _, rfl, rfl, _, rfl, ?_⟩
  refine ite2 (fun lt => ?one) (fun _ => ?two)
  case' one =>
    have lt' : i < (((ns.map V.int).length : Nat) : Int) := of_decide_eq_true lt
    obtain ⟨y, at_i, e2⟩ := atI_of i0 lt'
    obtain ⟨z, rfl⟩ := int_of_get e2
    refine ⟨_, rfl, _, rfl, a, _, _, _, rfl, rfl, hS, at_i, _, rfl, ?_⟩
  all_goals
    refine ⟨_, rfl, _, _, rfl, rfl, .inl ⟨by decide, by decide⟩, _, _, rfl, rfl, _, _, rfl, ?_⟩
    refine ⟨_, rfl, _, rfl, a, _, rfl, hS, fun p hp => ?_⟩
    have sp : Same H (upd H p (.lst (cutV (ns.map V.int) none (some 63)))) := same_new hp _
    refine ⟨p, _, rfl, SqL.of upd_same, ?_⟩
    refine for_it (walk_enum (K := K) (a := p) (xs := cutV (ns.map V.int) none (some 63)))
      (fun _ σ H' => ∃ (x m : Int) (u v : Option V), σ = [some (.ref a), some (.int i), some (.int x), some (.int m), u, v] ∧ Same (upd H p (.lst (cutV (ns.map V.int) none (some 63)))) H')
      ⟨_, _, none, none, rfl, Same.refl _⟩ (fun _ σ H' _ ⟨_, _, _, _, _, sm⟩ => sm.seq (SqL.of upd_same)) ?_ ?_
    · rintro t y σ H1 H2 ht ⟨x, m, u, v, rfl, sm⟩ ⟨T, y1, y2, rfl, hT, rfl, e1, e2⟩
      cases e1
      obtain ⟨j, e3⟩ := cutV_get e2
      obtain ⟨z, rfl⟩ := int_of_get e3
      refine ⟨T, _, rfl, SqT.of upd_same, rfl, _, _, rfl, _, _, rfl, rfl, ?_⟩
      refine ⟨_, rfl, _, _, rfl, rfl, .inr ⟨by decide, by decide⟩, _, rfl, .inl ⟨_, rfl, ?_⟩⟩
      refine ⟨_, _, rfl, rfl, (by show (0 : Int) < 2147483629; decide), _, _, rfl, rfl, _, rfl, _, _, rfl, rfl, .inl ⟨by decide, by decide⟩, _, _, rfl, rfl, .inl ⟨_, rfl, ?_⟩⟩
      refine ⟨_, _, rfl, rfl, (by show (0 : Int) < 2147483647; decide), ?_⟩
      exact ⟨_, _, _, _, rfl, sm.trans (same_new hT _)⟩
    · rintro σ H1 ⟨x, m, u, v, rfl, sm⟩
      refine ⟨_, rfl, _, _, rfl, rfl, ⟨by decide, by decide, by decide⟩, _, _, rfl, rfl, _, rfl, ?_⟩
      refine ite2 (fun _ => ?_) (fun _ => ?_)
      · refine ⟨_, rfl, _, rfl, (by show 2 ≤ sizeLine; decide), fun b hb => ?_⟩
        exact q b _ (sp.trans (sm.trans (same_new hb _))) (sp.free (sm.free hb)) ⟨_, _, upd_same⟩
      · refine ⟨_, rfl, (by show 2 ≤ sizeLine; decide), fun b hb => ?_⟩
        exact q b _ (sp.trans (sm.trans (same_new hb _))) (sp.free (sm.free hb)) ⟨_, _, upd_same⟩
end
end Tx

/-! ## Values: nothing, texts, lists; their sizes -/
namespace Tx
open PySem PySem.Spec PyProof.Rows L2
/-- letters a to z alone -/
def ltr (x : Str) : Bool := x.cps.toList.all fun c => decide (97 ≤ c ∧ c ≤ 122)
mutual
def isVal : PyData → Bool
  | .none => true
  | .str x => ltr x
  | .list xs => isValAll xs
  | _ => false
def isValAll : List PyData → Bool
  | [] => true
  | x :: xs => isVal x && isValAll xs
end
mutual
def szD : PyData → Nat
  | .str x => 1 + x.length
  | .list xs => 1 + szAll xs
  | _ => 1
def szAll : List PyData → Nat
  | [] => 0
  | x :: xs => szD x + szAll xs
end
theorem isValAll_iff : ∀ {xs : List PyData}, isValAll xs = true ↔ ∀ d ∈ xs, isVal d = true
  | [] => by simp [isValAll]
  | x :: xs => by simp [isValAll, isValAll_iff (xs := xs)]
theorem szAll_append : ∀ (xs ys : List PyData), szAll (xs ++ ys) = szAll xs + szAll ys
  | [], ys => by simp [szAll]
  | x :: xs, ys => by simp only [List.cons_append, szAll, szAll_append xs ys]; omega
theorem szAll_eq : ∀ xs : List PyData, szAll xs = (xs.map szD).sum
  | [] => rfl
  | x :: xs => by simp only [szAll, List.map_cons, List.sum_cons, szAll_eq xs]
theorem szD_pos : ∀ d : PyData, 1 ≤ szD d
  | .none => by simp [szD]
  | .bool _ => by simp [szD]
  | .int _ => by simp [szD]
  | .str _ => by simp [szD]
  | .list _ => by simp [szD]
  | .tuple _ => by simp [szD]
  | .dict _ => by simp [szD]
theorem len_le_szAll : ∀ xs : List PyData, xs.length ≤ szAll xs
  | [] => by simp [szAll]
  | x :: xs => by
    have := len_le_szAll xs
    have := szD_pos x
    simp only [szAll, List.length_cons]
    omega
theorem szD_mem : ∀ {xs : List PyData} {d : PyData}, d ∈ xs → szD d ≤ szAll xs
  | [], d, h => by simp at h
  | x :: xs, d, h => by
    simp only [szAll]
    cases h with
    | head => omega
    | tail _ h => have := szD_mem h; omega
theorem szAll_le {B : Nat} : ∀ {xs : List PyData}, (∀ d ∈ xs, szD d ≤ B) → szAll xs ≤ B * xs.length
  | [], _ => by simp [szAll]
  | x :: xs, h => by
    have h1 := h x List.mem_cons_self
    have h2 := szAll_le (B := B) (xs := xs) fun d hd => h d (List.mem_cons_of_mem _ hd)
    simp only [szAll, List.length_cons, Nat.mul_add, Nat.mul_one]
    omega
mutual
theorem val_fine : ∀ d : PyData, isVal d = true → fine d = true
  | .none, _ => rfl
  | .str x, h => by
    simp only [isVal, ltr, List.all_eq_true, decide_eq_true_eq] at h
    simp only [fine, List.all_eq_true, decide_eq_true_eq]
    intro c hc
    have := h c hc
    omega
  | .list xs, h => by simp only [isVal] at h; simp only [fine]; exact valAll_fine xs h
  | .bool _, h => by simp [isVal] at h
  | .int _, h => by simp [isVal] at h
  | .tuple _, h => by simp [isVal] at h
  | .dict _, h => by simp [isVal] at h
theorem valAll_fine : ∀ xs : List PyData, isValAll xs = true → fineAll xs = true
  | [], _ => rfl
  | x :: xs, h => by
    simp only [isValAll, Bool.and_eq_true] at h
    simp only [fineAll, val_fine x h.1, valAll_fine xs h.2, Bool.and_self]
end
mutual
theorem val_wt : ∀ d : PyData, isVal d = true → wt d + 2 ≤ 12 * szD d
  | .none, _ => by simp [wt, szD]
  | .str x, _ => by simp only [wt, szD]; omega
  | .list xs, h => by
    simp only [isVal] at h
    have := valAll_wt xs h
    simp only [wt, szD]
    omega
  | .bool _, h => by simp [isVal] at h
  | .int _, h => by simp [isVal] at h
  | .tuple _, h => by simp [isVal] at h
  | .dict _, h => by simp [isVal] at h
theorem valAll_wt : ∀ xs : List PyData, isValAll xs = true → wtAll xs ≤ 12 * szAll xs
  | [], _ => by simp [wtAll, szAll]
  | x :: xs, h => by
    simp only [isValAll, Bool.and_eq_true] at h
    have h1 := val_wt x h.1
    have h2 := valAll_wt xs h.2
    simp only [wtAll, szAll]
    omega
end
/-- a value of at most such a depth and size -/
structure Val (n m : Nat) (d : PyData) : Prop where
  val : isVal d = true
  deep : d.depth ≤ n
  size : szD d ≤ m
theorem Val.mono {n m n' m' : Nat} {d : PyData} (h : Val n m d) (h1 : n ≤ n') (h2 : m ≤ m') : Val n' m' d := ⟨h.val, Nat.le_trans h.deep h1, Nat.le_trans h.size h2⟩
theorem Val.ok {n m : Nat} {d : PyData} (h : Val n m d) (hn : n ≤ 60) (hm : m ≤ 1000000) : Ok d := by
  have h1 := val_wt d h.val
  have h2 := h.size
  exact ⟨val_fine d h.val, Nat.le_trans h.deep hn, by omega⟩
theorem Val.item {n m : Nat} {ds : List PyData} (h : Val n m (.list ds)) {d : PyData} (hd : d ∈ ds) : Val (n - 1) (m - 1) d := by
  have hv := h.val
  have hn := h.deep
  have hm := h.size
  simp only [isVal] at hv
  simp only [PyData.depth] at hn
  simp only [szD] at hm
  have := depth_mem hd
  have := szD_mem hd
  exact ⟨isValAll_iff.mp hv d hd, by omega, by omega⟩
/-- what is at hand can be read in J; the bag at b is none of it; from H to H' the bag may have changed, J has grown to J' by new things -/
structure Gro (b : Addr) (J H J' H' : Hp) : Prop where
  st : Stp b H H'
  jj : Same J J'
  jh : Same J' H'
  fr : ∀ a, H a ≠ none → J a = none → J' a = none
section
variable {b : Addr} {J J1 J2 H H1 H2 : Hp}
theorem Stp.gro (h : Stp b H H1) (hb : J b = none) (s : Same J H) : Gro b J H J H1 :=
  ⟨h, Same.refl _, fun a o e => h.keep a o (fun z => by rw [z, hb] at e; cases e) (s a o e), fun _ _ n => n⟩
theorem Gro.refl (h : Bag H b) (s : Same J H) : Gro b J H J H := ⟨Stp.refl h, Same.refl _, s, fun _ _ n => n⟩
theorem Gro.noBag (g : Gro b J H J1 H1) (hB : Bag H b) (hb : J b = none) : J1 b = none := by
  obtain ⟨c, m, e⟩ := hB
  exact g.fr b (by rw [e]; simp) hb
theorem Stp.there (h : Stp b H H1) (hB : Bag H b) {a : Addr} (n : H a ≠ none) : H1 a ≠ none := by
  by_cases e : a = b
  · subst e
    obtain ⟨c, m, e⟩ := h.bag
    rw [e]; simp
  · cases q : H a with
    | none => exact absurd q n
    | some o => rw [h.keep a o e q]; simp
theorem Gro.trans (g : Gro b J H J1 H1) (k : Gro b J1 H1 J2 H2) (hB : Bag H b) : Gro b J H J2 H2 :=
  ⟨g.st.trans k.st, g.jj.trans k.jj, k.jh, fun a n e => k.fr a (g.st.there hB n) (g.fr a n e)⟩
/-- a further step that leaves what is at hand -/
theorem Gro.step (g : Gro b J H J1 H1) (h : Stp b H1 H2) (hB : Bag H b) (hb : J b = none) : Gro b J H J1 H2 := g.trans (h.gro (g.noBag hB hb) g.jh) hB
/-- a new thing -/
theorem Gro.new (g : Gro b J H J1 H1) {p : Addr} (hp : H1 p = none) (o : HO) : Gro b J H J1 (upd H1 p o) :=
  ⟨g.st.new hp o, g.jj, g.jh.trans (same_new hp o), g.fr⟩
/-- a new thing that is at hand -/
theorem Gro.add (g : Gro b J H J1 H1) (hB : Bag H b) {p : Addr} (hp : H1 p = none) (o : HO) : Gro b J H (upd J1 p o) (upd H1 p o) := by
  have hj : J1 p = none := g.jh.free hp
  refine ⟨g.st.new hp o, g.jj.trans (same_new hj o), fun a u e => ?_, fun a n e => ?_⟩
  · by_cases z : a = p
    · subst z; rw [upd_same] at e ⊢; exact e
    · rw [upd_ne z] at e ⊢; exact g.jh a u e
  · have z : a ≠ p := fun z => g.st.there hB n (by rw [z]; exact hp)
    rw [upd_ne z]
    exact g.fr a n e
/-- a thing of one's own, new since H, comes to hand -/
theorem Gro.own (g : Gro b J H J1 H1) {p : Addr} {o : HO} (hp : H1 p = some o) (hn : H p = none) (hj : J1 p = none) : Gro b J H (upd J1 p o) H1 := by
  refine ⟨g.st, g.jj.trans (same_new hj o), fun a u e => ?_, fun a n e => ?_⟩
  · by_cases z : a = p
    · subst z; rw [upd_same] at e; rw [← e]; exact hp
    · rw [upd_ne z] at e; exact g.jh a u e
  · have z : a ≠ p := fun z => n (by rw [z]; exact hn)
    rw [upd_ne z]
    exact g.fr a n e
theorem Stp.free (h : Stp b H H1) (hB : Bag H b) {r : Addr} (n : H1 r = none) : H r = none := by
  cases q : H r with
  | none => rfl
  | some o => exact absurd n (h.there hB (by rw [q]; simp))
theorem Stp.ne (h : Stp b H H1) {r : Addr} (n : H1 r = none) : r ≠ b := fun z => by
  obtain ⟨_, _, e⟩ := h.bag
  rw [← z, n] at e
  cases e
theorem same_upd {J H : Hp} {r : Addr} {o : HO} (s : Same J H) (n : J r = none) : Same J (upd H r o) := fun a u e => by
  rw [upd_ne (ne_of_none e n)]
  exact s a u e
/-- a thing of one's own is changed -/
theorem Gro.mut (g : Gro b J H J1 H1) {r : Addr} (hr : H r = none) (hj : J1 r = none) (rb : r ≠ b) (o : HO) : Gro b J H J1 (upd H1 r o) := by
  obtain ⟨c, m, e⟩ := g.st.bag
  exact ⟨⟨⟨c, m, by rw [upd_ne (Ne.symm rb)]; exact e⟩, fun a u n z => by rw [upd_ne (ne_of_none z hr)]; exact g.st.keep a u n z⟩, g.jj, same_upd g.jh hj, g.fr⟩
theorem Gro.same (g : Gro b J H J1 H1) (s : Same H1 H2) : Gro b J H J1 H2 := ⟨g.st.same s, g.jj, g.jh.trans s, g.fr⟩
end
end Tx

/-! ## The law's drawn values -/
namespace Tx
open PySem PySem.Spec PyProof.Rows L2
abbrev sText : Stmt := top 14
theorem scText : FnScope ["_law_bag_here", "_law_most", "_law_turn", "_law_word", "_law_signs"] ["_law_bag_here", "_law_most"] (defScope sText) := ⟨rfl, rfl, rfl, by decide +kernel, rfl, by decide +kernel, by decide +kernel⟩
abbrev sSize : Stmt := top 15
theorem scSize : FnScope ["_law_value_here", "_law_one"] ["_law_value_here"] (defScope sSize) := ⟨rfl, rfl, rfl, by decide +kernel, rfl, by decide +kernel, by decide +kernel⟩
/-- text(bag, m): letters, at most m -/
def spText : Sp := fun vs H Q _ => ∃ (b : Addr) (m : Int), vs = [.ref b, .int m] ∧ Bag H b ∧ 0 ≤ m ∧ m < 1000 ∧
  ∀ (x : Str) (H' : Hp), ltr x = true → (x.length : Int) ≤ m → Stp b H H' → Q (.str x) H'
/-- size(v), v less deep than n -/
def spSize (K : PySem.W.Frag) (n : Nat) : Sp := fun vs H Q _ => ∃ (v : V) (d : PyData), vs = [v] ∧ Dp K H v d ∧ isVal d = true ∧ d.depth < n ∧ szD d ≤ 1000000 ∧
  ∀ H', Same H H' → Q (.int (szD d)) H'
theorem sum_int : ∀ ds : List PyData, (ds.map fun d => (szD d : Int)).sum = (((ds.map szD).sum : Nat) : Int)
  | [] => rfl
  | x :: xs => by simp only [List.map_cons, List.sum_cons, sum_int xs]; omega
theorem ltr_append {x y : Str} (hx : ltr x = true) (hy : ltr y = true) : ltr (x ++ y) = true := by
  have e : (x ++ y).cps = x.cps ++ y.cps := rfl
  unfold ltr at *
  rw [e, Array.toList_append, List.all_append, hx, hy]
  rfl
theorem ltr_get {x : Str} (hx : ltr x = true) {i : Nat} {c : Nat} (h : x.cps.toList[i]? = some c) : ltr ⟨#[c]⟩ = true := by
  unfold ltr at *
  have hc := List.all_eq_true.mp hx c (List.mem_of_getElem? h)
  simp only [List.all_cons, List.all_nil, Bool.and_true]
  exact hc
section
variable {P : Program} {w : World} {K : PySem.W.Frag} {mg : Str → Option Value} {base : Heap}
theorem dfn_none {x : Str} {st : Stmt} {ps : List Str} {sp : Sp} (h : Has K mg x st) (bd : BindsBy x st ps) (no : ∀ vs H Q E, ¬ sp vs H Q E) : Dfn P w K mg base CX0 0 x ps sp := by
  obtain ⟨f, fd, F, m⟩ := h
  exact ⟨f, fd, ⟨fun vs H Q E z => absurd z (no vs H Q E), fun A out s H ar us vs Q E _ _ _ _ _ z => absurd z (no vs H Q E)⟩, m, F.kp, F.binds bd⟩
theorem d_text (h : Has K mg "_law_text" sText) (B : Bi mg) (D_law_take : Dfn P w K mg base CX0 1 "_law_take" ["_law_bag_here", "_law_many"] spTake) :
    Dfn P w K mg base CX0 2 "_law_text" ["_law_bag_here", "_law_most"] spText := by
  refine dfn0 h B scText (fun _ _ _ _ _ _ us hl => match us, hl with | [_, _], _ => rfl) (fun vs H Q E h => ?_) (fun f cv A out s H vs Q E c h => ?_)
  · obtain ⟨b, m, rfl, _⟩ := h
    rfl
  obtain ⟨b, m, rfl, hB, m0, m1, q⟩ := h
  refine ⟨_, (pss_cons (ps_par (i := 3) (j := 4) rfl scText.nd rfl rfl (by decide) rfl rfl (pa_cons pe_str (pa_cons (pe_ix ix_list (pe_lst (pa_cons pe_str (pa_cons pe_str (pa_cons pe_str pa_nil)))) (pe_d D_law_take c (by omega) (by rfl) (pa_cons (pv 0) (pa_cons pe_int pa_nil))) (fun _ _ => rfl)) pa_nil)) (by rfl))
    (pss_cons (ps_for PassesOwn.never rfl (pi_range1 (by rfl) c.b.range (pa_cons (pe_d D_law_take c (by omega) (by rfl) (pa_cons (pv 0) (pa_cons (pe_op op_add (pv 1) pe_int) pa_nil))) pa_nil)) (pg_name (i := 2) scText.nd rfl (Or.inl rfl))
    (pss_one (ps_set (i := 3) scText.nd rfl (Or.inl rfl) (pe_op op_add_str (pv 3) (pe_ix ix_str (pv 4) (pe_d D_law_take c (by omega) (by rfl) (pa_cons (pv 0) (pa_cons (pe_callB call_len_str (by rfl) c.b.len PySem.boot_len (pa_cons (pv 4) pa_nil)) pa_nil))) (fun _ _ => rfl))))))
    (pss_one (ps_ret (pv 3))))), ?_⟩
  refine ⟨(by show 3 ≤ sizeLine; decide), fun p hp => ⟨_, rfl, b, 3, rfl, ((Stp.refl hB).new hp _).bag, by decide, by decide, fun r H1 r0 r1 st => ?_⟩⟩
  have nb : p ≠ b := fun z => by obtain ⟨_, _, e⟩ := hB; rw [← z, hp] at e; cases e
  have st1 : Stp b H H1 := ((Stp.refl hB).new hp _).trans st
  obtain ⟨v, e1, e2⟩ := atI_of (xs := [V.str "abcdefghijklmnopqrstuvwxyz", V.str "ab", V.str "za"]) r0 r1
  have sg : ∃ g : Str, v = .str g ∧ ltr g = true ∧ 1 ≤ g.length ∧ g.length ≤ 26 := by
    have h3 : r.toNat = 0 ∨ r.toNat = 1 ∨ r.toNat = 2 := by omega
    rcases h3 with z | z | z <;> rw [z] at e2 <;> cases e2 <;> exact ⟨_, rfl, by decide, by decide, by decide⟩
  obtain ⟨g, rfl, gl, g1, g2⟩ := sg
  refine ⟨p, _, _, _, rfl, rfl, SqL.of (st.keep p _ nb upd_same), e1, _, _, rfl, ?_⟩
  refine ⟨_, rfl, _, rfl, _, _, rfl, rfl, b, m + 1, rfl, st1.bag, by omega, by omega, fun n H2 n0 n1 st2 => ?_⟩
  refine ⟨n, rfl, by omega, by omega, ?_⟩
  refine for_range (lo := 0) (n := n.toNat) (fun i σ H' => ∃ (x : Str) (u : Option V), σ = [some (.ref b), some (.int m), u, some (.str x), some (.str g)] ∧ ltr x = true ∧ x.length ≤ i ∧ Stp b H H')
    ⟨_, none, rfl, rfl, Nat.le_refl _, st1.trans st2⟩ ?_ ?_
  · rintro i σ H3 hi ⟨x, u, rfl, xl, xn, st3⟩
    refine ⟨_, rfl, _, rfl, _, rfl, _, rfl, g, rfl, (by rw [sizeLine_eq]; omega), b, _, rfl, st3.bag, by omega, by omega, fun k H4 k0 k1 st4 => ?_⟩
    obtain ⟨cc, e3, e4⟩ := atI_of (xs := g.cps.toList) k0 (show k < ((g.cps.toList.length : Nat) : Int) by rw [Array.length_toList]; exact k1)
    refine ⟨g, _, cc, rfl, rfl, (by rw [sizeLine_eq]; omega), e3, _, _, rfl, rfl, (by show x.length + 1 ≤ sizeLine; rw [sizeLine_eq]; omega), ?_⟩
    refine ⟨_, _, rfl, ltr_append xl (ltr_get gl e4), ?_, st3.trans st4⟩
    show (x.cps ++ #[cc]).size ≤ i + 1
    have : x.cps.size ≤ i := xn
    simp
    omega
  · rintro σ H3 ⟨x, u, rfl, xl, xn, st3⟩
    exact ⟨_, rfl, q x _ xl (by omega) st3⟩
theorem d_size (h : Has K mg "_law_size" sSize) (B : Bi mg) : ∀ n, Dfn P w K mg base CX0 n "_law_size" ["_law_value_here"] (spSize K n)
  | 0 => dfn_none h (fun _ _ _ _ _ _ us hl => match us, hl with | [_], _ => rfl) fun vs H Q E z => by
    obtain ⟨_, _, _, _, _, z, _⟩ := z
    omega
  | n + 1 => by
    have D_law_size := d_size h B n
    refine dfn0 h B scSize (fun _ _ _ _ _ _ us hl => match us, hl with | [_], _ => rfl) (fun vs H Q E h => ?_) (fun f cv A out s H vs Q E c h => ?_)
    · obtain ⟨v, d, rfl, _⟩ := h
      rfl
    obtain ⟨v, d, rfl, hd, val, dn, sz, q⟩ := h
    cases d with
    | none =>
      cases hd
      refine ⟨_, (pss_cons (ps_if (pt_val (pe_callB (call_isD (T := "list")) (by rfl) c.b.isinstance (by decide +kernel) (pa_cons (pv 0) (pa_cons (pe_bltn (v := .ty "list") (by rfl) c.b.list (by decide +kernel) rfl) pa_nil)))) (pss_one (ps_ret (pe_op op_add pe_int (pe_callB (cr_sum rfl) (by rfl) c.b.sum (by decide +kernel) (pa_cons (pe_lc (own := [("_law_one", 1)]) (g := (gName 1)) (tt := tYes) rfl scSize.nd (pi_list (pv 0)) (blkOk_by (own := [("_law_one", 1)]) (N := ["_law_value_here", "_law_one"]) (sc := defScope sSize) (by decide +kernel)) (fun _ _ _ _ _ => (pg_name (i := 1) scSize.nd rfl (Or.inl rfl))) (fun _ _ _ _ _ => pts_nil) (fun _ _ _ _ _ => (pe_d D_law_size c (by omega) (by rfl) (pa_cons (pv 1) pa_nil)))) pa_nil))))) pss_nil)
    (pss_one (ps_ret (pe_ifExp (pt_cmpR op_isN (pv 0) pe_non (nomark _)) pe_int (pe_op op_add pe_int (pe_callB call_len_str (by rfl) c.b.len PySem.boot_len (pa_cons (pv 0) pa_nil))))))), ?_⟩
      refine ⟨_, rfl, _, .none, _, rfl, .non, kit_list _, _, rfl, iteF ?_⟩
      exact ⟨_, rfl, rfl, _, rfl, iteT (q _ (Same.refl _))⟩
    | str x =>
      cases hd
      refine ⟨_, (pss_cons (ps_if (pt_val (pe_callB (call_isD (T := "list")) (by rfl) c.b.isinstance (by decide +kernel) (pa_cons (pv 0) (pa_cons (pe_bltn (v := .ty "list") (by rfl) c.b.list (by decide +kernel) rfl) pa_nil)))) (pss_one (ps_ret (pe_op op_add pe_int (pe_callB (cr_sum rfl) (by rfl) c.b.sum (by decide +kernel) (pa_cons (pe_lc (own := [("_law_one", 1)]) (g := (gName 1)) (tt := tYes) rfl scSize.nd (pi_list (pv 0)) (blkOk_by (own := [("_law_one", 1)]) (N := ["_law_value_here", "_law_one"]) (sc := defScope sSize) (by decide +kernel)) (fun _ _ _ _ _ => (pg_name (i := 1) scSize.nd rfl (Or.inl rfl))) (fun _ _ _ _ _ => pts_nil) (fun _ _ _ _ _ => (pe_d D_law_size c (by omega) (by rfl) (pa_cons (pv 1) pa_nil)))) pa_nil))))) pss_nil)
    (pss_one (ps_ret (pe_ifExp (pt_cmpR op_isN (pv 0) pe_non (nomark _)) pe_int (pe_op op_add pe_int (pe_callB call_len_str (by rfl) c.b.len PySem.boot_len (pa_cons (pv 0) pa_nil))))))), ?_⟩
      refine ⟨_, rfl, _, .str x, _, rfl, .str x, kit_list _, _, rfl, iteF ?_⟩
      refine ⟨_, rfl, rfl, _, rfl, iteF ?_⟩
      have sx : szD (.str x) = 1 + x.length := by simp [szD]
      refine ⟨_, rfl, x, rfl, (by rw [sizeLine_eq]; omega), _, _, rfl, rfl, ?_⟩
      have := q _ (Same.refl _)
      rw [sx] at this
      simpa using this
    | list ds =>
      cases hd with
      | @lst a xs _ hs ha =>
      refine ⟨_, (pss_cons (ps_if (pt_val (pe_callB (call_isD (T := "list")) (by rfl) c.b.isinstance (by decide +kernel) (pa_cons (pv 0) (pa_cons (pe_bltn (v := .ty "list") (by rfl) c.b.list (by decide +kernel) rfl) pa_nil)))) (pss_one (ps_ret (pe_op op_add pe_int (pe_callB (cr_sum rfl) (by rfl) c.b.sum (by decide +kernel) (pa_cons (pe_lc (own := [("_law_one", 1)]) (g := (gName 1)) (tt := tYes) rfl scSize.nd (pi_list (pv 0)) (blkOk_by (own := [("_law_one", 1)]) (N := ["_law_value_here", "_law_one"]) (sc := defScope sSize) (by decide +kernel)) (fun _ _ _ _ _ => (pg_name (i := 1) scSize.nd rfl (Or.inl rfl))) (fun _ _ _ _ _ => pts_nil) (fun _ _ _ _ _ => (pe_d D_law_size c (by omega) (by rfl) (pa_cons (pv 1) pa_nil)))) pa_nil))))) pss_nil)
    (pss_one (ps_ret (pe_ifExp (pt_cmpR op_isN (pv 0) pe_non (nomark _)) pe_int (pe_op op_add pe_int (pe_callB call_len_str (by rfl) c.b.len PySem.boot_len (pa_cons (pv 0) pa_nil))))))), ?_⟩
      refine ⟨_, rfl, _, .list ds, _, rfl, .lst hs ha, kit_list _, _, rfl, iteT ?_⟩
      have sx : szD (.list ds) = 1 + szAll ds := by simp [szD]
      have hlen := DpAll.length ha
      have hle := len_le_szAll ds
      simp only [PyData.depth] at dn
      simp only [isVal] at val
      refine ⟨_, rfl, a, rfl, ⟨_, hs⟩, fun L hL => ?_⟩
      refine lc_list (K := K) (a := a) (xs := xs) (fun i H' => Same H H' ∧ H' L = some (.lst ((ds.take i).map fun d => V.int (szD d))))
        ⟨same_new hL _, upd_same⟩ (fun i H' _ z => z.1.seq hs) ?_ ?_
      · rintro i x H1 hx ⟨sm, hL1⟩
        obtain ⟨d, e1, e2⟩ := DpAll.get ha hx
        have hm := List.mem_of_getElem? e1
        have hi : i < ds.length := (List.getElem?_eq_some_iff.mp e1).1
        refine ⟨rfl, _, rfl, _, d, rfl, dp_mono sm d _ e2, isValAll_iff.mp val d hm, ?_, ?_, fun H2 sm2 => ?_⟩
        · have := depth_mem hm
          omega
        · have := szD_mem hm
          omega
        refine ⟨_, sm2 _ _ hL1, ?_, (fun b o e => ?_), ?_⟩
        · rw [List.length_map, List.length_take, sizeLine_eq]
          omega
        · rw [upd_ne (ne_of_none e hL)]
          exact sm2 _ _ (sm _ _ e)
        · rw [upd_same, List.take_add_one, e1, List.map_append]
          rfl
      · rintro H1 ⟨sm, hL1⟩
        rw [hlen, List.take_length] at hL1
        refine ⟨L, ds.map fun d => (szD d : Int), rfl, SqL.of ?_, _, _, rfl, rfl, ?_⟩
        · rw [hL1, List.map_map]
          rfl
        · have := q _ sm
          rw [sx, szAll_eq] at this
          have es := sum_int ds
          have e2 : (1 : Int) + (ds.map fun d => (szD d : Int)).sum = ((1 + (ds.map szD).sum : Nat) : Int) := by omega
          show Q (.int (1 + (ds.map fun d => (szD d : Int)).sum)) H1
          rw [e2]
          exact this
    | bool _ => simp [isVal] at val
    | int _ => simp [isVal] at val
    | tuple _ => simp [isVal] at val
    | dict _ => simp [isVal] at val
end
end Tx

namespace Tx
open PySem PySem.Spec PyProof.Rows L2
abbrev sValue : Stmt := top 16
theorem scValue : FnScope ["_law_bag_here", "_law_deep", "_law_room", "_law_pick", "_law_turn", "_law_made", "_law_left"] ["_law_bag_here", "_law_deep", "_law_room"] (defScope sValue) := ⟨rfl, rfl, rfl, by decide +kernel, rfl, by decide +kernel, by decide +kernel⟩
/-- value(bag, deep, room), deep below n -/
def spValue (K : PySem.W.Frag) (n : Nat) : Sp := fun vs H Q _ => ∃ (b : Addr) (J : Hp) (deep room : Int), vs = [.ref b, .int deep, .int room] ∧ Bag H b ∧ J b = none ∧ Same J H ∧ 0 ≤ deep ∧ deep < n ∧ 1 ≤ room ∧ room ≤ 1000 ∧
  ∀ (v : V) (d : PyData) (J' H' : Hp), Gro b J H J' H' → Dp K J' v d → Val deep.toNat room.toNat d → Q v H'
section
variable {P : Program} {w : World} {K : PySem.W.Frag} {mg : Str → Option Value} {base : Heap}
theorem d_value (h : Has K mg "_law_value" sValue) (B : Bi mg) (D_law_take : Dfn P w K mg base CX0 1 "_law_take" ["_law_bag_here", "_law_many"] spTake) (D_law_text : Dfn P w K mg base CX0 2 "_law_text" ["_law_bag_here", "_law_most"] spText)
    (D_law_size : Dfn P w K mg base CX0 20 "_law_size" ["_law_value_here"] (spSize K 20)) : ∀ n, n ≤ 19 → Dfn P w K mg base CX0 (n + 20) "_law_value" ["_law_bag_here", "_law_deep", "_law_room"] (spValue K n)
  | 0, _ => (dfn_none h (fun _ _ _ _ _ _ us hl => match us, hl with | [_, _, _], _ => rfl) fun vs H Q E z => by
    obtain ⟨_, _, _, _, _, _, _, _, z1, z2, _⟩ := z
    omega).mono (by omega)
  | n + 1, hn => by
    have D_law_value := d_value h B D_law_take D_law_text D_law_size n (by omega)
    refine dfn0 (k := n + 20) h B scValue (fun _ _ _ _ _ _ us hl => match us, hl with | [_, _, _], _ => rfl) (fun vs H Q E h => ?_) (fun f cv A out s H vs Q E c h => ?_)
    · obtain ⟨b, J, deep, room, rfl, _⟩ := h
      rfl
    obtain ⟨b, J, deep, room, rfl, hB, jb, js, d0, dn, r1, r2, q⟩ := h
    refine ⟨_, (pss_cons (ps_set (i := 3) scValue.nd rfl (Or.inl rfl) (pe_d D_law_take c (by omega) (by rfl) (pa_cons (pv 0) (pa_cons pe_int pa_nil))))
    (pss_cons (ps_if (PW.pt (pw_or (pt_cmpR op_eq (pv 3) pe_int (nomark _)) (pw_or1 (pt_cmpR op_eq (pv 2) pe_int (nomark _))))) (pss_one (ps_ret (pe_ix ix_list (pe_lst (pa_cons pe_non (pa_cons pe_str (pa_cons (pe_lst pa_nil) pa_nil)))) (pe_d D_law_take c (by omega) (by rfl) (pa_cons (pv 0) (pa_cons (pe_ifExp (pt_cmpR op_gt (pv 1) pe_int (nomark _)) pe_int pe_int) pa_nil))) (fun _ _ => rfl)))) pss_nil)
    (pss_cons (ps_if (PW.pt (pw_or (pt_cmpR op_eq (pv 3) pe_int (nomark _)) (pw_or1 (pt_cmpR op_eq (pv 1) pe_int (nomark _))))) (pss_one (ps_ret (pe_d D_law_text c (by omega) (by rfl) (pa_cons (pv 0) (pa_cons (pe_callB (call_min2 rfl) (by rfl) c.b.min (by decide +kernel) (pa_cons pe_int (pa_cons (pe_op op_sub (pv 2) pe_int) pa_nil))) pa_nil))))) pss_nil)
    (pss_cons (ps_par (i := 5) (j := 6) rfl scValue.nd rfl rfl (by decide) rfl rfl (pa_cons (pe_lst pa_nil) (pa_cons (pe_op op_sub (pv 2) pe_int) pa_nil)) (by rfl))
    (pss_cons (ps_for PassesOwn.never rfl (pi_range1 (by rfl) c.b.range (pa_cons (pe_d D_law_take c (by omega) (by rfl) (pa_cons (pv 0) (pa_cons pe_int pa_nil))) pa_nil)) (pg_name (i := 4) scValue.nd rfl (Or.inl rfl))
    (pss_one (ps_if (pt_cmpR op_gt (pv 6) pe_int (nomark _)) (pss_cons (ps_expr (pe_bm PySem.F.plainAttrs_list PySem.F.slot_list_append PySem.F.type_list_append mt_append (pv 5) (pa_cons (pe_d D_law_value c (by omega) (by rfl) (pa_cons (pv 0) (pa_cons (pe_op op_sub (pv 1) pe_int) (pa_cons (pv 6) pa_nil)))) pa_nil)))
    (pss_one (ps_set (i := 6) scValue.nd rfl (Or.inl rfl) (pe_op op_sub (pv 6) (pe_d D_law_size c (by omega) (by rfl) (pa_cons (pe_ix ix_list (pv 5) (pe_un un_neg pe_int) (fun _ _ => rfl)) pa_nil)))))) pss_nil)))
    (pss_one (ps_ret (pv 5)))))))), ?_⟩
    refine ⟨_, rfl, b, 5, rfl, hB, by decide, by decide, fun pick H1 p0 p1 st1 => ?_⟩
    have g1 : Gro b J H J H1 := st1.gro jb js
    refine ⟨_, rfl, rfl, _, rfl, ?_⟩
    refine ite2 (fun _ => ?ret) (fun n0 => ⟨_, rfl, rfl, _, rfl, ite2 (fun _ => ?ret') (fun n1 => ?go)⟩)
    case go =>
      refine ⟨_, rfl, rfl, _, rfl, ite2 (fun _ => ?txt) (fun _ => ⟨_, rfl, rfl, _, rfl, ite2 (fun _ => ?txt') (fun m1 => ?lst)⟩)⟩
      case lst =>
        have deep1 : deep ≠ 0 := fun z => m1 (by rw [z]; rfl)
        refine ⟨(by show 0 ≤ sizeLine; decide), fun r hr => ⟨_, rfl, _, _, rfl, rfl, _, _, rfl, ?_⟩⟩
        have hrH : H r = none := st1.free hB hr
        have rb : r ≠ b := st1.ne hr
        have g2 := g1.new hr (.lst [])
        refine ⟨_, rfl, b, 5, rfl, g2.st.bag, by decide, by decide, fun t H2 t0 t1 st2 => ⟨t, rfl, by omega, by omega, ?_⟩⟩
        have g3 := g2.step st2 hB jb
        have hjr : J r = none := js.free hrH
        refine for_range (lo := 0) (n := t.toNat) (fun i σ H' => ∃ (u : Option V) (left : Int) (Ji : Hp) (vs : List V) (ds : List PyData),
            σ = [some (.ref b), some (.int deep), some (.int room), some (.int pick), u, some (.ref r), some (.int left)] ∧ Gro b J H Ji H' ∧ H' r = some (.lst vs) ∧ Ji r = none ∧
            DpAll K Ji vs ds ∧ isValAll ds = true ∧ PyData.depthAll ds ≤ (deep - 1).toNat ∧ 0 ≤ left ∧ (szAll ds : Int) + left = room - 1 ∧ vs.length ≤ i)
          ⟨none, room - 1, J, [], [], rfl, g3, st2.keep r _ rb upd_same, hjr, .nil, rfl, by simp [PyData.depthAll], by omega, by simp [szAll], Nat.le_refl _⟩ ?_ ?_
        · rintro i σ H3 hi ⟨u, left, Ji, vs, ds, rfl, g, hr3, jr, ha, val, dep, l0, ls, vl⟩
          refine ⟨_, rfl, _, _, rfl, rfl, _, rfl, ite2 (fun lp => ?_) (fun _ => ?_)⟩
          · have lp' : 0 < left := of_decide_eq_true lp
            have jib : Ji b = none := g.noBag hB jb
            refine ⟨_, rfl, .inl ⟨rfl, _, SqL.of hr3⟩, _, rfl, _, rfl, _, _, rfl, rfl, _, rfl, b, Ji, deep - 1, left, rfl, g.st.bag, jib, g.jh, by omega, by omega, by omega, by omega, fun v d J2 H4 g4 hd vd => ?_⟩
            have hr4 : H4 r = some (.lst vs) := g4.st.keep r _ rb hr3
            have jr2 : J2 r = none := g4.fr r (by rw [hr3]; simp) jr
            have vdz := vd.size
            have vdd := vd.deep
            refine ⟨r, vs, v, rfl, rfl, hr4, (by rw [sizeLine_eq]; omega), ?_⟩
            have g5 := (g.trans g4 hB).mut hrH jr2 rb (.lst (vs ++ [v]))
            refine ⟨_, rfl, _, rfl, _, rfl, r, _, _, v, rfl, rfl, SqL.of upd_same, atI_last _ _, v, d, rfl, dp_mono g5.jh d v hd, vd.val, by omega, by omega, fun H5 sm => ?_⟩
            refine ⟨_, _, rfl, rfl, some (.int (0 + i)), left - szD d, J2, vs ++ [v], ds ++ [d], rfl, g5.same sm, sm _ _ upd_same, jr2, DpAll.append (dpAll_mono g4.jj ds vs ha) (DpAll.one hd), ?_, ?_, by omega, ?_, ?_⟩
            · exact isValAll_iff.mpr fun x hx => (List.mem_append.mp hx).elim (isValAll_iff.mp val x) fun hx => by rw [List.mem_singleton.mp hx]; exact vd.val
            · refine depthAll_le fun x hx => (List.mem_append.mp hx).elim (fun hx => Nat.le_trans (depth_mem hx) dep) fun hx => by rw [List.mem_singleton.mp hx]; exact vdd
            · rw [szAll_append]
              simp only [szAll]
              omega
            · rw [List.length_append]
              show vs.length + 1 ≤ i + 1
              omega
          · exact ⟨_, left, Ji, vs, ds, rfl, g, hr3, jr, ha, val, dep, l0, ls, by omega⟩
        · rintro σ H3 ⟨u, left, Ji, vs, ds, rfl, g, hr3, jr, ha, val, dep, l0, ls, vl⟩
          refine ⟨_, rfl, q (.ref r) (.list ds) _ H3 (g.own hr3 hrH jr) (.lst (SqL.of upd_same) (dpAll_mono (same_new jr _) ds vs ha)) ⟨?_, ?_, ?_⟩⟩
          · simpa only [isVal] using val
          · simp only [PyData.depth]
            omega
          · simp only [szD]
            omega
      all_goals
        refine ⟨_, rfl, _, rfl, _, _, rfl, rfl, _, _, rfl, b, _, rfl, g1.st.bag, ?_, ?_, fun x H2 xl xn st2 => ?_⟩
        · split <;> omega
        · split <;> omega
        refine q (.str x) (.str x) J H2 (g1.step st2 hB jb) (.str x) ⟨?_, ?_, ?_⟩
        · simpa only [isVal] using xl
        · simp [PyData.depth]
        · simp only [szD]
          split at xn <;> omega
    all_goals
      refine ⟨(by show 0 ≤ sizeLine; decide), fun e he => ⟨(by show 3 ≤ sizeLine; decide), fun p hp => ⟨_, rfl, _, rfl, _, _, rfl, rfl, _, rfl, ?_⟩⟩⟩
      have g2 := (g1.add hB he (.lst [])).new hp (.lst [.non, .str "", .ref e])
      have pb : p ≠ b := (g1.add hB he (.lst [])).st.ne hp
      refine ite2 (fun dp => ?_) (fun dp => ?_)
      · have dp' : 0 < deep := of_decide_eq_true dp
        refine ⟨b, 3, rfl, g2.st.bag, by decide, by decide, fun r H2 r0 r1 st2 => ?_⟩
        obtain ⟨v, e1, e2⟩ := atI_of (xs := [V.non, V.str "", V.ref e]) r0 r1
        refine ⟨p, _, _, _, rfl, rfl, SqL.of (st2.keep p _ pb upd_same), e1, ?_⟩
        have g3 := g2.step st2 hB jb
        have h3 : r.toNat = 0 ∨ r.toNat = 1 ∨ r.toNat = 2 := by omega
        rcases h3 with z | z | z <;> rw [z] at e2 <;> cases e2
        · exact q _ .none _ H2 g3 .non ⟨rfl, by simp [PyData.depth], by simp only [szD]; omega⟩
        · exact q _ (.str "") _ H2 g3 (.str _) ⟨rfl, by simp [PyData.depth], by simp only [szD]; show 1 + 0 ≤ _; omega⟩
        · exact q _ (.list []) _ H2 g3 (.lst (SqL.of upd_same) .nil) ⟨rfl, by simp only [PyData.depth, PyData.depthAll]; omega, by simp only [szD, szAll]; omega⟩
      · refine ⟨b, 2, rfl, g2.st.bag, by decide, by decide, fun r H2 r0 r1 st2 => ?_⟩
        obtain ⟨v, e1, e2⟩ := atI_of (xs := [V.non, V.str "", V.ref e]) r0 (by show r < 3; omega)
        refine ⟨p, _, _, _, rfl, rfl, SqL.of (st2.keep p _ pb upd_same), e1, ?_⟩
        have g3 := g2.step st2 hB jb
        have h3 : r.toNat = 0 ∨ r.toNat = 1 := by omega
        rcases h3 with z | z <;> rw [z] at e2 <;> cases e2
        · exact q _ .none _ H2 g3 .non ⟨rfl, by simp [PyData.depth], by simp only [szD]; omega⟩
        · exact q _ (.str "") _ H2 g3 (.str _) ⟨rfl, by simp [PyData.depth], by simp only [szD]; show 1 + 0 ≤ _; omega⟩
end
end Tx

namespace Tx
open PySem PySem.Spec PyProof.Rows L2
/-- a text so often: its letters, and how many at most -/
theorem op_rep_str {X : Cx} : OpR X (binaryOp .Mult) (fun x y H Q => ∃ (z : Str) (n : Int), x = .str z ∧ y = .int n ∧ 1 ≤ n ∧ n ≤ 1000 ∧ z.length ≤ 1000 ∧
    ∀ u : Str, (∀ c ∈ u.cps.toList, c ∈ z.cps.toList) → u.length ≤ z.length * n.toNat → Q (.str u) H) := by
  intro pins s σ H x y v u Q I rx ry ask
  obtain ⟨z, n, rfl, rfl, n0, n1, z1, q⟩ := ask
  obtain ⟨t, rfl⟩ := rx
  obtain ⟨t', rfl⟩ := ry
  have le : z.length * n.toNat ≤ 1000 * 1000 := Nat.mul_le_mul z1 (by omega)
  have hok : MulOk z n := by
    refine ⟨?_, fun _ _ => ?_, fun _ _ => ?_⟩
    · simp only [Bool.or_eq_false_iff, decide_eq_false_iff_not]
      omega
    · have h1 : (9223372036854775 : Int) ≤ (2 ^ 63 - 1) / n := by
        rw [Int.le_ediv_iff_mul_le (by omega)]
        omega
      omega
    · unfold PySem.Builtin.Str.tooLong
      simp only [decide_eq_false_iff_not]
      rw [sizeLine_eq]
      omega
  have mem : ∀ (k : Nat) (acc : Array Nat), (∀ c ∈ acc.toList, c ∈ z.cps.toList) → (∀ c ∈ ((List.replicate k z.cps).foldl (· ++ ·) acc).toList, c ∈ z.cps.toList) ∧ ((List.replicate k z.cps).foldl (· ++ ·) acc).size = acc.size + z.cps.size * k := by
    intro k
    induction k with
    | zero => intro acc h; exact ⟨h, by simp⟩
    | succ k ih =>
      intro acc h
      rw [List.replicate_succ, List.foldl_cons]
      obtain ⟨i1, i2⟩ := ih (acc ++ z.cps) (fun c hc => by
        rw [Array.toList_append] at hc
        exact (List.mem_append.mp hc).elim (h c) id)
      refine ⟨i1, ?_⟩
      rw [i2, Array.size_append, Nat.mul_succ]
      omega
  have key : (∀ c ∈ (Txt.mul z n).cps.toList, c ∈ z.cps.toList) ∧ (Txt.mul z n).length ≤ z.length * n.toNat := by
    unfold Txt.mul
    rw [if_neg (by omega)]
    split
    · exact ⟨fun _ h => h, Nat.le_mul_of_pos_right _ (by omega)⟩
    · obtain ⟨m1, m2⟩ := mem n.toNat #[] (fun c hc => by simp at hc)
      exact ⟨m1, by show ((List.replicate n.toNat z.cps).foldl (· ++ ·) #[]).size ≤ _; rw [m2]; show 0 + z.cps.size * n.toNat ≤ z.cps.size * n.toNat; omega⟩
  refine SB.mul hok fun t2 k => ?_
  exact ⟨.str (Txt.mul z n), H, I.tok k, ⟨t2, rfl⟩, q _ key.1 key.2⟩
theorem cutV_to {xs : List V} {r : Int} (h : 0 ≤ r) : cutV xs none (some r) = xs.take r.toNat := by
  unfold cutV
  obtain ⟨k, rfl⟩ := Int.eq_ofNat_of_zero_le h
  rw [HT.sIx_none, HT.sIx_nat, List.drop_zero, Nat.sub_zero]
  rw [Int.toNat_natCast]
  by_cases hk : k ≤ xs.length
  · rw [Nat.min_eq_left hk]
  · rw [Nat.min_eq_right (by omega), List.take_length, List.take_of_length_le (by omega)]
theorem cutS_to {z : Str} {r : Int} (h : 0 ≤ r) : (∀ c ∈ (cutS z none (some r)).cps.toList, c ∈ z.cps.toList) ∧ ((cutS z none (some r)).length : Int) ≤ r := by
  obtain ⟨k, rfl⟩ := Int.eq_ofNat_of_zero_le h
  unfold cutS
  rw [HT.sIx_none, HT.sIx_nat, List.drop_zero, Nat.sub_zero]
  refine ⟨fun c hc => List.mem_of_mem_take (by simpa using hc), ?_⟩
  show (((z.cps.toList.take (min k z.length)).toArray.size : Nat) : Int) ≤ (k : Int)
  simp
  omega
theorem ltr_sub {x z : Str} (hz : ltr z = true) (h : ∀ c ∈ x.cps.toList, c ∈ z.cps.toList) : ltr x = true := by
  unfold ltr at *
  exact List.all_eq_true.mpr fun c hc => List.all_eq_true.mp hz c (h c hc)
theorem DpAll.rep {K : PySem.W.Frag} {H : Hp} {vs : List V} {ds : List PyData} (h : DpAll K H vs ds) : ∀ n : Nat, DpAll K H (List.replicate n vs).flatten (List.replicate n ds).flatten
  | 0 => .nil
  | n + 1 => by
    rw [List.replicate_succ, List.replicate_succ, List.flatten_cons, List.flatten_cons]
    exact DpAll.append h (DpAll.rep h n)
theorem mem_rep {α : Type} {x : α} {l : List α} {n : Nat} (h : x ∈ (List.replicate n l).flatten) : x ∈ l := by
  obtain ⟨m, hm, hx⟩ := List.mem_flatten.mp h
  rw [(List.mem_replicate.mp hm).2] at hx
  exact hx
/-- a list of values -/
theorem Val.list {n m : Nat} {ds : List PyData} (h1 : ∀ d ∈ ds, isVal d = true) (h2 : ∀ d ∈ ds, d.depth ≤ n) (h3 : szAll ds ≤ m) : Val (n + 1) (m + 1) (.list ds) :=
  ⟨by simpa only [isVal] using isValAll_iff.mpr h1, by simp only [PyData.depth]; have := depthAll_le h2; omega, by simp only [szD]; omega⟩
abbrev sGreat : Stmt := top 17
theorem scGreat : FnScope ["_law_bag_here", "_law_pick", "_law_made", "_law_turn", "_law_word", "_law_small", "_law_k"] ["_law_bag_here"] (defScope sGreat) := ⟨rfl, rfl, rfl, by decide +kernel, rfl, by decide +kernel, by decide +kernel⟩
/-- great(bag) -/
def spGreat (K : PySem.W.Frag) : Sp := fun vs H Q _ => ∃ (b : Addr) (J : Hp), vs = [.ref b] ∧ Bag H b ∧ J b = none ∧ Same J H ∧
  ∀ (v : V) (d : PyData) (J' H' : Hp), Gro b J H J' H' → Dp K J' v d → Val 12 400 d → Q v H'
section
variable {P : Program} {w : World} {K : PySem.W.Frag} {mg : Str → Option Value} {base : Heap}
theorem d_great (h : Has K mg "_law_great" sGreat) (B : Bi mg) (D_law_take : Dfn P w K mg base CX0 1 "_law_take" ["_law_bag_here", "_law_many"] spTake) (D_law_text : Dfn P w K mg base CX0 2 "_law_text" ["_law_bag_here", "_law_most"] spText)
    (D_law_value : Dfn P w K mg base CX0 26 "_law_value" ["_law_bag_here", "_law_deep", "_law_room"] (spValue K 6)) : Dfn P w K mg base CX0 27 "_law_great" ["_law_bag_here"] (spGreat K) := by
  refine dfn0 (k := 26) h B scGreat (fun _ _ _ _ _ _ us hl => match us, hl with | [_], _ => rfl) (fun vs H Q E h => ?_) (fun f cv A out s H vs Q E c h => ?_)
  · obtain ⟨b, J, rfl, _⟩ := h
    rfl
  obtain ⟨b, J, rfl, hB, jb, js, q⟩ := h
  refine ⟨_, (pss_cons (ps_set (i := 1) scGreat.nd rfl (Or.inl rfl) (pe_d D_law_take c (by omega) (by rfl) (pa_cons (pv 0) (pa_cons pe_int pa_nil))))
    (pss_cons (ps_if (pt_cmpR op_gt (pv 1) pe_int (nomark _)) (pss_one (ps_ret (pe_d D_law_value c (by omega) (by rfl) (pa_cons (pv 0) (pa_cons pe_int (pa_cons pe_int pa_nil)))))) pss_nil)
    (pss_cons (ps_if (pt_cmpR op_eq (pv 1) pe_int (nomark _)) (pss_cons (ps_set (i := 4) scGreat.nd rfl (Or.inl rfl) (pe_op op_add_str pe_str (pe_d D_law_text c (by omega) (by rfl) (pa_cons (pv 0) (pa_cons pe_int pa_nil)))))
    (pss_one (ps_ret (pe_slice sl_str (pe_op op_rep_str (pv 4) pe_int) po_none (po_some (pe_d D_law_take c (by omega) (by rfl) (pa_cons (pv 0) (pa_cons pe_int pa_nil)))))))) pss_nil)
    (pss_cons (ps_if (pt_cmpR op_eq (pv 1) pe_int (nomark _)) (pss_cons (ps_setLc (i := 5) (own := [("_law_turn", 3)]) (g := (gName 3)) (tt := tYes) rfl scGreat.nd rfl rfl (sw_true rfl rfl rfl (by decide +kernel)) (pi_range1 (by rfl) c.b.range (pa_cons (pe_op op_add pe_int (pe_d D_law_take c (by omega) (by rfl) (pa_cons (pv 0) (pa_cons pe_int pa_nil)))) pa_nil)) (blkOk_by (own := [("_law_turn", 3)]) (N := ["_law_bag_here", "_law_pick", "_law_made", "_law_turn", "_law_word", "_law_small", "_law_k"]) (sc := defScope sGreat) (by decide +kernel)) (fun _ _ _ _ _ => (pg_name (i := 3) scGreat.nd rfl (Or.inl rfl))) (fun _ _ _ _ _ => pts_nil) (fun _ _ _ _ _ => (pe_d D_law_value c (by omega) (by rfl) (pa_cons (pv 0) (pa_cons pe_int (pa_cons pe_int pa_nil))))))
    (pss_one (ps_ret (pe_slice sl_list (pe_op op_rep (pv 5) pe_int) po_none (po_some (pe_d D_law_take c (by omega) (by rfl) (pa_cons (pv 0) (pa_cons pe_int pa_nil)))))))) pss_nil)
    (pss_cons (ps_set (i := 2) scGreat.nd rfl (Or.inl rfl) (pe_d D_law_value c (by omega) (by rfl) (pa_cons (pv 0) (pa_cons pe_int (pa_cons pe_int pa_nil)))))
    (pss_cons (ps_for PassesOwn.never rfl (pi_range1 (by rfl) c.b.range (pa_cons (pe_d D_law_take c (by omega) (by rfl) (pa_cons (pv 0) (pa_cons pe_int pa_nil))) pa_nil)) (pg_name (i := 3) scGreat.nd rfl (Or.inl rfl))
    (pss_cons (ps_setLc (i := 5) (own := [("_law_k", 6)]) (g := (gName 6)) (tt := tYes) rfl scGreat.nd rfl rfl (sw_true rfl rfl rfl (by decide +kernel)) (pi_range1 (by rfl) c.b.range (pa_cons (pe_d D_law_take c (by omega) (by rfl) (pa_cons (pv 0) (pa_cons pe_int pa_nil))) pa_nil)) (blkOk_by (own := [("_law_k", 6)]) (N := ["_law_bag_here", "_law_pick", "_law_made", "_law_turn", "_law_word", "_law_small", "_law_k"]) (sc := defScope sGreat) (by decide +kernel)) (fun _ _ _ _ _ => (pg_name (i := 6) scGreat.nd rfl (Or.inl rfl))) (fun _ _ _ _ _ => pts_nil) (fun _ _ _ _ _ => (pe_d D_law_value c (by omega) (by rfl) (pa_cons (pv 0) (pa_cons pe_int (pa_cons pe_int pa_nil))))))
    (pss_one (ps_set (i := 2) scGreat.nd rfl (Or.inl rfl) (pe_ifExp (pt_cmpR op_eq (pe_d D_law_take c (by omega) (by rfl) (pa_cons (pv 0) (pa_cons pe_int pa_nil))) pe_int (nomark _)) (pe_op op_cat (pv 5) (pe_lst (pa_cons (pv 2) pa_nil))) (pe_op op_cat (pe_lst (pa_cons (pv 2) pa_nil)) (pv 5)))))))
    (pss_one (ps_ret (pv 2))))))))), ?_⟩
  refine ⟨_, rfl, b, 6, rfl, hB, by decide, by decide, fun pick H1 p0 p1 st1 => ?_⟩
  have g1 : Gro b J H J H1 := st1.gro jb js
  refine ⟨_, rfl, _, _, rfl, rfl, _, rfl, ite2 (fun _ => ?_) (fun _ => ?_)⟩
  · refine ⟨_, rfl, b, J, 4, 60, rfl, g1.st.bag, jb, g1.jh, by decide, by decide, by decide, by decide, fun v d J2 H2 g2 hd vd => ?_⟩
    exact q v d J2 H2 (g1.trans g2 hB) hd (vd.mono (by decide) (by decide))
  refine ⟨_, rfl, rfl, _, rfl, ite2 (fun _ => ?_) (fun _ => ?_)⟩
  · refine ⟨_, rfl, b, 5, rfl, g1.st.bag, by decide, by decide, fun x H2 xl xn st2 => ?_⟩
    have g2 := g1.step st2 hB jb
    refine ⟨_, _, rfl, rfl, (by show 1 + x.length ≤ sizeLine; rw [sizeLine_eq]; omega), ?_⟩
    have ql : ltr (("q" : Str) ++ x) = true := ltr_append (by decide) xl
    have qn : (("q" : Str) ++ x).length = 1 + x.length := by
      rw [strLen_append]; rfl
    refine ⟨_, rfl, _, _, rfl, rfl, by decide, by decide, by omega, fun u um un => ?_⟩
    refine ⟨_, rfl, b, 400, rfl, g2.st.bag, by decide, by decide, fun r H3 r0 r1 st3 => ⟨r, rfl, u, rfl, ?_, ?_⟩⟩
    · have : u.length ≤ 1000 * 399 := Nat.le_trans un (Nat.mul_le_mul (by omega) (by decide))
      rw [sizeLine_eq]; omega
    obtain ⟨c1, c2⟩ := cutS_to (z := u) r0
    refine q (.str _) (.str _) J H3 (g2.step st3 hB jb) (.str _) ⟨?_, by simp [PyData.depth], ?_⟩
    · simpa only [isVal] using ltr_sub (ltr_sub ql um) c1
    · simp only [szD]; omega
  refine ⟨_, rfl, rfl, _, rfl, ite2 (fun _ => ?_) (fun _ => ?_)⟩
  · -- many small ones
    refine ⟨_, rfl, b, 3, rfl, g1.st.bag, by decide, by decide, fun r H2 r0 r1 st2 => ?_⟩
    have g2 := g1.step st2 hB jb
    refine ⟨_, _, rfl, rfl, _, rfl, by omega, by omega, fun L hL => ?_⟩
    have hLH : H L = none := g2.st.free hB hL
    have Lb : L ≠ b := g2.st.ne hL
    refine lc_range (lo := 0) (n := (1 + r).toNat) (fun i H' => ∃ (Ji : Hp) (vs : List V) (ds : List PyData), Gro b J H Ji H' ∧ H' L = some (.lst vs) ∧ Ji L = none ∧ DpAll K Ji vs ds ∧ (∀ d ∈ ds, Val 1 2 d) ∧ vs.length = i)
      ⟨J, [], [], g2.new hL _, upd_same, js.free hLH, .nil, (fun _ h => nomatch h), rfl⟩ ?_ ?_
    · rintro i H3 hi ⟨Ji, vs, ds, g, hL3, jL, ha, va, vl⟩
      refine ⟨rfl, _, rfl, b, Ji, 1, 2, rfl, g.st.bag, g.noBag hB jb, g.jh, by decide, by decide, by decide, by decide, fun v d J2 H4 g4 hd vd => ?_⟩
      have jL2 : J2 L = none := g4.fr L (by rw [hL3]; simp) jL
      refine ⟨vs, g4.st.keep L _ Lb hL3, (by rw [sizeLine_eq]; omega), J2, vs ++ [v], ds ++ [d], (g.trans g4 hB).mut hLH jL2 Lb _, upd_same, jL2, DpAll.append (dpAll_mono g4.jj ds vs ha) (DpAll.one hd), ?_, by rw [List.length_append, vl]; rfl⟩
      exact fun x hx => (List.mem_append.mp hx).elim (va x) fun hx => by rw [List.mem_singleton.mp hx]; exact vd
    · rintro H3 ⟨Ji, vs, ds, g, hL3, jL, ha, va, vl⟩
      refine ⟨_, rfl, L, _, vs, rfl, rfl, hL3, by decide, by decide, ?_, fun p hp => ?_⟩
      · have : vs.length * 199 ≤ 4 * 199 := Nat.mul_le_mul_right _ (by omega)
        show vs.length * 199 ≤ sizeLine
        rw [sizeLine_eq]; omega
      have g3 := g.new hp (.lst (List.replicate (199 : Int).toNat vs).flatten)
      refine ⟨_, rfl, b, 200, rfl, g3.st.bag, by decide, by decide, fun k H4 k0 k1 st4 => ⟨k, rfl, p, _, rfl, SqL.of (st4.keep p _ (g.st.ne hp) upd_same), fun p2 hp2 => ?_⟩⟩
      have g4 := g3.step st4 hB jb
      have hj2 : Ji p2 = none := g4.jh.free hp2
      rw [cutV_to k0]
      refine q (.ref p2) (.list (((List.replicate (199 : Int).toNat ds).flatten).take k.toNat)) _ _ (g4.add hB hp2 _) (.lst (SqL.of upd_same) (dpAll_mono (same_new hj2 _) _ _ (DpAll.take k.toNat (DpAll.rep ha _)))) ?_
      have mem : ∀ d ∈ ((List.replicate (199 : Int).toNat ds).flatten).take k.toNat, Val 1 2 d := fun d hd => va d (mem_rep (List.mem_of_mem_take hd))
      refine (Val.list (n := 1) (m := 398) (fun d hd => (mem d hd).val) (fun d hd => (mem d hd).deep) ?_).mono (by decide) (by decide)
      have := szAll_le (B := 2) fun d hd => (mem d hd).size
      have h2 : (((List.replicate (199 : Int).toNat ds).flatten).take k.toNat).length ≤ k.toNat := List.length_take_le _ _
      omega
  · -- a deep one
    refine ⟨_, rfl, b, J, 3, 20, rfl, g1.st.bag, jb, g1.jh, by decide, by decide, by decide, by decide, fun v d J2 H2 g2 hd vd => ?_⟩
    have g3 := g1.trans g2 hB
    refine ⟨_, rfl, b, 10, rfl, g3.st.bag, by decide, by decide, fun t H3 t0 t1 st3 => ⟨t, rfl, by omega, by omega, ?_⟩⟩
    have g4 := g3.step st3 hB jb
    refine for_range (lo := 0) (n := t.toNat) (fun i σ H' => ∃ (u m : Option V) (mv : V) (md : PyData) (Ji : Hp), σ = [some (.ref b), some (.int pick), some mv, u, none, m, none] ∧ Gro b J H Ji H' ∧ Dp K Ji mv md ∧ Val (3 + i) (20 + 4 * i) md)
      ⟨none, none, v, d, J2, rfl, g4, hd, vd⟩ ?_ ?_
    · rintro i σ H4 hi ⟨u, m, mv, md, Ji, rfl, g, hmd, vmd⟩
      refine ⟨_, rfl, b, 2, rfl, g.st.bag, by decide, by decide, fun r H5 r0 r1 st5 => ⟨r, rfl, by omega, by omega, fun L hL => ?_⟩⟩
      have g5 := g.step st5 hB jb
      have hLH : H L = none := g5.st.free hB hL
      have Lb : L ≠ b := g5.st.ne hL
      refine lc_range (lo := 0) (n := r.toNat) (fun i H' => ∃ (Jk : Hp) (vs : List V) (ds : List PyData), Gro b J H Jk H' ∧ H' L = some (.lst vs) ∧ Jk L = none ∧ DpAll K Jk vs ds ∧ (∀ d ∈ ds, Val 1 3 d) ∧ vs.length = i ∧ Dp K Jk mv md)
        ⟨Ji, [], [], g5.new hL _, upd_same, g5.jh.free hL, .nil, (fun _ h => nomatch h), rfl, hmd⟩ ?_ ?_
      · rintro i H3 hi ⟨Jk, vs, ds, gk, hL3, jL, ha, va, vl, hm⟩
        refine ⟨rfl, _, rfl, b, Jk, 1, 3, rfl, gk.st.bag, gk.noBag hB jb, gk.jh, by decide, by decide, by decide, by decide, fun v d J3 H6 g6 hd vd => ?_⟩
        have jL2 : J3 L = none := g6.fr L (by rw [hL3]; simp) jL
        refine ⟨vs, g6.st.keep L _ Lb hL3, (by rw [sizeLine_eq]; omega), J3, vs ++ [v], ds ++ [d], (gk.trans g6 hB).mut hLH jL2 Lb _, upd_same, jL2, DpAll.append (dpAll_mono g6.jj ds vs ha) (DpAll.one hd), ?_, by rw [List.length_append, vl]; rfl, dp_mono g6.jj md mv hm⟩
        exact fun x hx => (List.mem_append.mp hx).elim (va x) fun hx => by rw [List.mem_singleton.mp hx]; exact vd
      · rintro H6 ⟨Jk, vs, ds, gk, hL6, jL, ha, va, vl, hm⟩
        have dl : vs.length = ds.length := DpAll.length ha
        have vmv := vmd.val
        have vmn := vmd.deep
        have vms := vmd.size
        have s3 := szAll_le (B := 3) fun d hd => (va d hd).size
        have done : ∀ (es : List PyData), (∀ d ∈ es, d = md ∨ d ∈ ds) → szAll es = szAll ds + szD md → Val (3 + (i + 1)) (20 + 4 * (i + 1)) (.list es) := by
          intro es he hs
          refine (Val.list (n := 3 + i) (m := 23 + 4 * i) (fun d hd => (he d hd).elim (fun z => by rw [z]; exact vmv) fun z => (va d z).val) (fun d hd => (he d hd).elim (fun z => by rw [z]; exact vmn) fun z => Nat.le_trans (va d z).deep (by omega)) (by omega)).mono (by omega) (by omega)
        refine ⟨_, rfl, b, 2, rfl, gk.st.bag, by decide, by decide, fun k H7 k0 k1 st7 => ⟨rfl, _, rfl, ?_⟩⟩
        have g7 := gk.step st7 hB jb
        have hL7 := st7.keep L _ Lb hL6
        refine ite2 (fun _ => ?_) (fun _ => ?_)
        · refine ⟨_, rfl, _, rfl, (by show 1 ≤ sizeLine; decide), fun p hp => ?_⟩
          refine ⟨L, p, vs, _, rfl, rfl, (by rw [upd_ne (ne_of_none hL7 hp)]; exact hL7), upd_same, (by show vs.length + 1 ≤ sizeLine; rw [sizeLine_eq]; omega), fun p2 hp2 => ?_⟩
          have g8 := (g7.new hp (.lst [mv])).add hB hp2 (.lst (vs ++ [mv]))
          have hj : Jk p2 = none := (g7.new hp (.lst [mv])).jh.free hp2
          refine ⟨_, _, _, .list (ds ++ [md]), _, rfl, g8, .lst (SqL.of upd_same) (dpAll_mono (same_new hj _) _ _ (DpAll.append ha (DpAll.one hm))), done _ (fun d hd => (List.mem_append.mp hd).elim .inr fun z => .inl (List.mem_singleton.mp z)) ?_⟩
          rw [szAll_append]; simp only [szAll]; omega
        · refine ⟨_, rfl, (by show 1 ≤ sizeLine; decide), fun p hp => ⟨_, rfl, ?_⟩⟩
          refine ⟨p, L, _, vs, rfl, rfl, upd_same, (by rw [upd_ne (ne_of_none hL7 hp)]; exact hL7), (by show 1 + vs.length ≤ sizeLine; rw [sizeLine_eq]; omega), fun p2 hp2 => ?_⟩
          have g8 := (g7.new hp (.lst [mv])).add hB hp2 (.lst ([mv] ++ vs))
          have hj : Jk p2 = none := (g7.new hp (.lst [mv])).jh.free hp2
          refine ⟨_, _, _, .list ([md] ++ ds), _, rfl, g8, .lst (SqL.of upd_same) (dpAll_mono (same_new hj _) _ _ (DpAll.append (DpAll.one hm) ha)), done _ (fun d hd => (List.mem_append.mp hd).elim (fun z => .inl (List.mem_singleton.mp z)) .inr) ?_⟩
          rw [szAll_append]; simp only [szAll]; omega
    · rintro σ H4 ⟨u, m, mv, md, Ji, rfl, g, hmd, vmd⟩
      exact ⟨_, rfl, q mv md Ji H4 g hmd (vmd.mono (by omega) (by omega))⟩
end
end Tx

namespace Tx
open PySem PySem.Spec PyProof.Rows L2
/-! ## Further rules: list(text); errors with a field of their own -/
theorem vals_of : ∀ (xs : List V) (us : List Value), xs.length = us.length → (∀ (j : Nat) (x : V) (u : Value), xs[j]? = some x → us[j]? = some u → RelV x u) → Vals xs us
  | [], [], _, _ => .nil
  | [], _ :: _, e, _ => by simp at e
  | _ :: _, [], e, _ => by simp at e
  | x :: xs, u :: us, e, h => .cons (h 0 x u rfl rfl) (vals_of xs us (by simpa using e) fun j y w h1 h2 => h (j + 1) y w (by simpa using h1) (by simpa using h2))
/-- the letters of a text, as texts -/
def sgn (z : Str) : List V := z.cps.toList.map fun c => V.str ⟨#[c]⟩
theorem call_listS {X : Cx} (hc : X.calm = true) : CallR X (.type "list") (fun xs H Q => ∃ z : Str, xs = [.str z] ∧ z.length ≤ sizeLine ∧ ∀ l, H l = none → Q (.ref l) (upd H l (.lst (sgn z)))) := by
  intro pins s σ H xs us Q I rel ask
  obtain ⟨z, rfl, hz, q⟩ := ask
  obtain ⟨u, rfl, r1⟩ := vals1 rel
  obtain ⟨t, rfl⟩ := r1
  refine call_list_str (I.ok.hd hc) z t (hn := hz) fun h' tk acc n keep new its => ?_
  have hl : acc.toList.length = z.cps.toList.length := by rw [Array.length_toList, Array.length_toList]; exact its.1
  refine ⟨.ref s.heap.objs.size, _, I.laid (t' := tk) (o := .lst (sgn z)) keep (Nat.le_refl _) ⟨?_, acc.toList, n, vals_of _ _ ?_ ?_, ?_⟩, rfl, q _ (I.hok.fresh (Nat.le_refl _))⟩
  · rw [sgn, List.length_map, Array.length_toList]; exact hz
  · rw [sgn, List.length_map, hl]
  · intro j x u hx hu
    obtain ⟨c, w, hc, rfl⟩ := its.2 j u (by simpa using hu)
    rw [sgn, List.getElem?_map, Array.getElem?_toList, hc] at hx
    cases hx
    exact ⟨w, rfl⟩
  · simpa using new
/-- isinstance(e, c), e the error that the suite holds, with or without fields -/
def rIsX (K : PySem.W.Frag) (D a : Addr) (cls : Value) (d : Option Addr) : List V → Hp → VK → Prop := fun xs H Q => ∃ (c : V) (cv : Value) (b : Bool), xs = [.ref a, c] ∧ cls = .ref D ∧ ClsV c cv ∧
  PySem.W.kitOne K (.ref D) cv = some b ∧ (∀ dd, d = some dd → ∃ fs, H dd = some (.xd fs)) ∧ Q (.bl b) H
def rIsXT (K : PySem.W.Frag) (D a : Addr) (cls : Value) (d : Option Addr) : List V → Hp → VK → Prop := fun xs H Q => ∃ (tp : Addr) (cs : List V) (us : List Value) (b : Bool), xs = [.ref a, .ref tp] ∧ cls = .ref D ∧ H tp = some (.tup cs) ∧
  Paired ClsV cs us ∧ PySem.W.kitAny K (.ref D) us = some b ∧ (∀ dd, d = some dd → ∃ fs, H dd = some (.xd fs)) ∧ Q (.bl b) H
section
variable {X : Cx} {a D : Addr} {oe : Obj} {cls : Value} {d : Option Addr} {pn : List (Addr × Obj)}
theorem inst_of {pins : List (Addr × Obj)} {σ : L2.St} {H : Hp} {s : Shared} (hz : Zc cls d oe) (hf : ∃ vs, oe.data = .fields vs) (I : Inv (X.suite a ((a, oe) :: pn)) pins σ H s) (ec : cls = .ref D)
    (hd : ∀ dd, d = some dd → ∃ fs, H dd = some (.xd fs)) : ∃ od, PySem.W.InstAt s.heap a oe D od := by
  obtain ⟨hg, _⟩ := I.pin (a, oe) (List.mem_append.mpr (.inl List.mem_cons_self))
  obtain ⟨vs, hv⟩ := hf
  have no : PySem.W.notCls oe = true := by unfold PySem.W.notCls; rw [hv] <;> rfl
  cases d with
  | none => exact ⟨none, ⟨hg, hz.1.trans ec, no, by rw [hz.2]; trivial⟩⟩
  | some dd =>
    obtain ⟨fs, e⟩ := hd dd rfl
    have ok : ObjOk X.prog X.w H s.heap dd (.xd fs) := I.hok dd _ e
    obtain ⟨mA, ⟨o, es, ep, ho, _⟩, _⟩ := ok
    exact ⟨some o, ⟨hg, hz.1.trans ec, no, by rw [hz.2]; exact ho⟩⟩
theorem kit_exc (C : ExcC X.K D) {od : Option Obj} : PySem.W.KitX X.K (.ref a) (.ref D) (fun h => PySem.W.InstAt h a oe D od) := by
  have hc : (PySem.W.clsIn X.K D).isSome = true := by
    obtain ⟨cd, e, _⟩ := PySem.W.any_some C.hd
    rw [e]; rfl
  exact PySem.W.kitx_exc hc C.hg C.hk C.hs C.ha C.hn C.ht C.hm
theorem call_isX (C : ExcC X.K D) (hz : Zc cls d oe) (hf : ∃ vs, oe.data = .fields vs) : CallR (X.suite a ((a, oe) :: pn)) (.builtin "isinstance") (rIsX X.K D a cls d) := by
  intro pins s σ H xs us Q I rel ask
  obtain ⟨c, cv, b, rfl, ec, kc, e, hd, q⟩ := ask
  obtain ⟨u1, u2, rfl, r1, r2⟩ := vals2 rel
  cases r1
  have e2 := kc.eq r2
  subst e2
  obtain ⟨od, J⟩ := inst_of hz hf I ec hd
  exact PySem.W.kia_one (kit_exc C) I.kIn J e (fun z => nomatch z) fun tk => ⟨.bl b, H, I.tok tk, rfl, q⟩
theorem call_isXT (C : ExcC X.K D) (hz : Zc cls d oe) (hf : ∃ vs, oe.data = .fields vs) : CallR (X.suite a ((a, oe) :: pn)) (.builtin "isinstance") (rIsXT X.K D a cls d) := by
  intro pins s σ H xs us Q I rel ask
  obtain ⟨tp, cs, ws, b, rfl, ec, hT, kc, e, hd, q⟩ := ask
  obtain ⟨u1, u2, rfl, r1, r2⟩ := vals2 rel
  cases r1
  cases (show u2 = Value.ref tp from r2)
  obtain ⟨_, its, rv, o, h1, h2, n, h3⟩ := (show ObjOk X.prog X.w H s.heap tp (.tup cs) from I.hok tp _ hT)
  have e3 := ClsV.all kc rv
  subst e3
  obtain ⟨oc, od, dt, sl⟩ := o
  simp only at h2 h3
  subst h2 h3
  obtain ⟨od, J⟩ := inst_of hz hf I ec hd
  exact PySem.W.kia_tup (kit_exc C) I.kIn J h1 e (fun z => nomatch z) fun tk => ⟨.bl b, H, I.tok tk, rfl, q⟩
end
/-- self.f = f, of a new error of the class at C -/
def spInit1 (C : Addr) (f : Str) : Sp := fun vs H Q _ => ∃ (a : Addr) (v : V), vs = [.ref a, v] ∧ H a = some (exo a C none) ∧
  ∀ dx, H dx = none → dx ≠ a → Q .non (upd (upd H dx (exd dx [(f, v)])) a (exo a C (some dx)))
/-- an error class with one field f: what the written part says of it -/
structure Err1 (P : Program) (w : World) (K : PySem.W.Frag) (mg : Str → Option Value) (base : Heap) (x f : Str) (C : Addr) : Prop where
  oex : OexC K C
  exc : ExcC K C
  gC : mg x = some (.ref C)
  noF : PySem.W.findIn K (.ref C) f = some none
  self : PySem.W.exmOne K (.ref C) (.ref C) = some true
  ini : ∃ (fI : Addr) (fd : FuncData), PySem.W.findIn K (.ref C) "__init__" = some (some (.ref fI)) ∧ PySem.W.typeIn K (.ref fI) = some (.type "function") ∧
    FnOk P w K mg base CX0 1 fI fd ["self", f] (spInit1 C f) ∧ Binds K fd ["self", f] []
theorem Err1.xf {P : Program} {w : World} {K : PySem.W.Frag} {mg : Str → Option Value} {base : Heap} {x f : Str} {C : Addr} (T : Err1 P w K mg base x f C) : XfC K C := ⟨T.exc.hg, T.exc.hk, T.exc.hs, T.exc.hd⟩
section
variable {X : Cx} {x f : Str} {C : Addr} {k : Nat} {W : WX} {e : Expr} {ta : TA} {p pos pos2 : Pos}
/-- raise x(e) -/
def tErr1 (C : Addr) (f : Str) (W : WX) (ta : TA) : TS := fun _ σ H => tMkO C (spInit1 C f) [] ta σ H fun cls d H' => W cls d σ H'
theorem ps_err1 (T : Err1 X.prog X.w X.K X.mg X.base x f C) (calm : X.calm = true) (room : Room (k + 2) X.A) (tk : Takes X W) (args : PA X [e] ta) (gl : Gl X x)
    (nd : (x == ("__debug__" : Str)) = false := by decide) (plain : starEach (e :: []) X.env = (false, eval e X.env) :: starEach [] X.env := by rfl) (bare : (backTo pos (starEach [] X.env)).any (·.1) = false := by rfl) :
    PS X (.Raise (some (.Call (.Name x p) [e] [] pos)) none pos2) (tErr1 C f W ta) := by
  obtain ⟨fI, fd, iC, tI, F, bd⟩ := T.ini
  exact ps_raise calm tk (pmk_oex T.oex iC tI F (room.mono (by omega)) bd .nil (fun _ _ _ _ _ _ _ h => False.elim h) gl T.gC args nd plain bare)
/-- what is left to show once the field is known -/
theorem err1 {v : V} {H : Hp} {Q : XK} (h : ∀ d, H d = none → Q (.ref C) (some d) (upd H d (.xd [(f, v)]))) : ([v] : List V).length ≤ 1000 ∧ ∀ a, H a = none → spInit1 C f (.ref a :: ([v] ++ [])) (upd H a (exo a C none))
    (fun u H2 => u = .non ∧ ∃ (d : Addr) (fs : List (Str × V)), H2 a = some (exo a C (some d)) ∧ H2 d = some (exd d fs) ∧ H d = none ∧ Q (.ref C) (some d) (upd (del H2 a) d (.xd fs))) (fun _ _ _ => False) := by
  refine ⟨(by show 1 ≤ 1000; decide), fun a ha => ⟨a, v, rfl, upd_same, fun dx hx ne => ⟨rfl, dx, [(f, v)], upd_same, ?_, ?_, ?_⟩⟩⟩
  · rw [upd_ne ne, upd_same]
  · rw [upd_ne ne] at hx
    exact hx
  · rw [upd_ne ne] at hx
    have e : upd (del (upd (upd (upd H a (exo a C none)) dx (exd dx [(f, v)])) a (exo a C (some dx))) a) dx (.xd [(f, v)]) = upd H dx (.xd [(f, v)]) := by
      funext b
      by_cases h1 : b = dx
      · rw [h1, upd_same, upd_same]
      · rw [upd_ne h1, upd_ne h1]
        by_cases h2 : b = a
        · rw [h2, del_same, ha]
        · rw [del_ne h2, upd_ne h2, upd_ne h1, upd_ne h2]
    rw [e]
    exact h dx hx
/-- f(e, ..), f a def of the module that may raise, where W wishes of what is raised -/
theorem pe_dS {j : Nat} {ps : List Str} {sp : Sp} {E : L2.St → XK} {es : List Expr} {t : TA} (D : Dfn X.prog X.w X.K X.mg X.base (L2.CX X.prog X.w) j x ps sp) (c : Ct X.mg X.A k) (h : j ≤ k) (gl : Gl X x)
    (out : ∀ σ, PassesAt (L2.CX X.prog X.w) X σ (E σ)) (args : PA X (e :: es) t) (nd : (x == ("__debug__" : Str)) = false := by decide)
    (plain : starEach (e :: es) X.env = (false, eval e X.env) :: starEach es X.env := by rfl) (bare : (backTo pos (starEach es X.env)).any (·.1) = false := by rfl) :
    PE X (.Call (.Name x p) (e :: es) [] pos) (tCallS sp E t) := by
  obtain ⟨f, fd, F, m, kp, bd⟩ := D
  constructor
  intro pins s σ H Q I ask
  refine wpAny_Call_Name_kw (ld_glob I gl m ?_ nd)
  refine PySem.W.callWith_K (h₀ := X.base) I.ok.mod.kin kp (thn (args.run pos pins s σ H _ I ask) ?_) plain bare
  rintro us s1 ⟨vs, H1, J, rel, q⟩
  refine ⟨J.kIn, ?_⟩
  have full : (us ++ []).length = ps.length := by rw [List.append_nil, ← rel.length]; exact F.len _ _ _ _ q
  have b2 := bd s1 us J.kIn full
  rw [List.append_nil] at b2
  refine wpAny_call (codeAny_mono (F.run X.A X.stack s1 H1 ⟨us, []⟩ us vs Q (E σ) (c.r.mono h) c.g J.env0 b2 rel q) ?_)
  intro r s2 got
  match r, got with
  | .ok (.ret u), got => exact J.after got
  | .ok .next, got => exact False.elim got
  | .ok .brk, got => exact False.elim got
  | .ok .cont, got => exact False.elim got
  | .error er, got => exact out σ pins H1 s1 er s2 J got
end
/-- from what the top has written to an error class with a field -/
theorem err1_of {P : Program} {w : World} {K : PySem.W.Frag} {mg : Str → Option Value} {base h : Heap} {x f : Str} {C fI N : Addr} {fd : FuncData} {nm q : Str} {bs bm sub : List Value} {sn : List Str} {ab : Bool} {col : Option Bool} {dd : Option Addr} {m0 m1 m2 m3 m5 : Option Value}
    (X : K.In h) (G : h.Ns mainGlobals mg) (aC : PySem.W.nsIn K mainGlobals x = some (some (.ref C)))
    (xL : K.lookup C = some (excClassObj nm q C N bs bm true sn sub ab col dd m0 m1 m2 m3 m5 "ValueError.__new__")) (vb : PySem.HandSPX.refsVE bm = true)
    (sa : PySem.W.findIn K (.ref C) "__setattr__" = some (some (.builtin "object.__setattr__"))) (ga : PySem.W.findIn K (.ref C) "__getattribute__" = some (some (.builtin "BaseException.__getattribute__")))
    (gg : PySem.W.findIn K (.ref C) "__getattr__" = some none) (nf : PySem.W.findIn K (.ref C) f = some none) (ai : PySem.W.findIn K (.ref C) "__init__" = some (some (.ref fI))) (ti : PySem.W.typeIn K (.ref fI) = some (.type "function"))
    (kC : PySem.W.keepIn K (.ref C) = true) (eC : PySem.W.subIn K (.ref C) (.type "BaseException") = some true) (tC : PySem.W.typeIn K (.ref C) = some (.type "type")) (hC : PySem.W.hasDictIn K C = true)
    (cC : PySem.W.findIn K (.ref C) "__class__" = some (some (.builtin "object.__class__"))) (gC : PySem.W.specialIn K (.builtin "object.__class__") "__get__" = some (some (.builtin "getset_descriptor.__get__")))
    (uC : PySem.W.takesIn K (.builtin "object.__class__") = some true) (oC : PySem.W.mroIn K C (.type "object") = some true) (sC : PySem.W.subIn K (.ref C) (.ref C) = some true)
    (ini : OexC K C → FnOk P w K mg base CX0 1 fI fd ["self", f] (spInit1 C f) ∧ Binds K fd ["self", f] []) : Err1 P w K mg base x f C := by
  have oex : OexC K C := ⟨⟨nm, q, N, bs, bm, sn, sub, ab, col, dd, m0, m1, m2, m3, m5, xL, vb⟩, sa, eC, tC, kC⟩
  exact ⟨oex, ⟨ga, gg, eC, hC, cC, gC, uC, oC⟩, PySem.W.mg_of X G aC, nf, PySem.W.exm_ref eC hC tC sC, fI, fd, ai, ti, (ini oex).1, (ini oex).2⟩
/-- a class of the module -/
structure Cls0 (mg : Str → Option Value) (x : Str) (C : Addr) : Prop where
  gC : mg x = some (.ref C)
theorem cls0_of {K : PySem.W.Frag} {mg : Str → Option Value} {h : Heap} {x : Str} {C : Addr} (X : K.In h) (G : h.Ns mainGlobals mg) (a : PySem.W.nsIn K mainGlobals x = some (some (.ref C))) : Cls0 mg x C := ⟨PySem.W.mg_of X G a⟩
theorem const_of {K : PySem.W.Frag} {mg : Str → Option Value} {h : Heap} {x z : Str} {t : Tok} (X : K.In h) (G : h.Ns mainGlobals mg) (a : PySem.W.nsIn K mainGlobals x = some (some (.str z t))) : ∃ t, mg x = some (.str z t) := ⟨t, PySem.W.mg_of X G a⟩
end Tx

namespace Tx
open PySem PySem.Spec PyProof.Rows L2
/-! ## The first place at which something is no value -/
/-- a place, as a tuple of numbers -/
def plD (p : List Nat) : PyData := .tuple (p.map fun (n : Nat) => PyData.int (n : Int))
mutual
def wrongP : PyData → Option (List Nat)
  | .none => none
  | .str x => if ltr x = true then none else some []
  | .list xs => wrongAll 0 xs
  | _ => some []
def wrongAll (i : Nat) : List PyData → Option (List Nat)
  | [] => none
  | x :: xs => match wrongP x with
    | some p => some (i :: p)
    | none => wrongAll (i + 1) xs
end
def isTxt : PyData → Bool
  | .str x => ltr x
  | _ => false
theorem wrongAll_drop {ds : List PyData} {i : Nat} {d : PyData} (h : ds[i]? = some d) (n : wrongP d = none) (e : wrongAll 0 ds = wrongAll i (ds.drop i)) : wrongAll 0 ds = wrongAll (i + 1) (ds.drop (i + 1)) := by
  have hi : i < ds.length := (List.getElem?_eq_some_iff.mp h).1
  rw [e, List.drop_eq_getElem_cons hi]
  have hd : ds[i] = d := by rw [List.getElem?_eq_getElem hi] at h; exact Option.some.inj h
  rw [hd]
  simp only [wrongAll, n]
theorem wrongAll_at {ds : List PyData} {i : Nat} {d : PyData} {p : List Nat} (h : ds[i]? = some d) (n : wrongP d = some p) (e : wrongAll 0 ds = wrongAll i (ds.drop i)) : wrongAll 0 ds = some (i :: p) := by
  have hi : i < ds.length := (List.getElem?_eq_some_iff.mp h).1
  rw [e, List.drop_eq_getElem_cons hi]
  have hd : ds[i] = d := by rw [List.getElem?_eq_getElem hi] at h; exact Option.some.inj h
  rw [hd]
  simp only [wrongAll, n]
mutual
theorem wrong_len : ∀ (d : PyData) (p : List Nat), wrongP d = some p → p.length ≤ d.depth
  | .none, p, h => by simp [wrongP] at h
  | .bool _, p, h => by simp only [wrongP] at h; cases h; simp
  | .int _, p, h => by simp only [wrongP] at h; cases h; simp
  | .tuple _, p, h => by simp only [wrongP] at h; cases h; simp
  | .dict _, p, h => by simp only [wrongP] at h; cases h; simp
  | .str x, p, h => by
    simp only [wrongP] at h
    split at h
    · cases h
    · cases h; simp
  | .list xs, p, h => by
    simp only [wrongP] at h
    have := wrongAll_len xs 0 p h
    simpa only [PyData.depth] using this
theorem wrongAll_len : ∀ (xs : List PyData) (i : Nat) (p : List Nat), wrongAll i xs = some p → p.length ≤ PyData.depthAll xs + 1
  | [], i, p, h => by simp [wrongAll] at h
  | x :: xs, i, p, h => by
    simp only [wrongAll] at h
    simp only [PyData.depthAll]
    cases e : wrongP x with
    | some q =>
      rw [e] at h
      cases h
      have := wrong_len x q e
      simp only [List.length_cons]
      omega
    | none =>
      rw [e] at h
      have := wrongAll_len xs (i + 1) p h
      omega
end
theorem abc_mem (c : Nat) : decide (c ∈ (("abcdefghijklmnopqrstuvwxyz" : Str)).cps.toList) = decide (97 ≤ c ∧ c ≤ 122) := by
  have e : (("abcdefghijklmnopqrstuvwxyz" : Str)).cps.toList = List.range' 97 26 := by decide +kernel
  rw [e]
  by_cases h : 97 ≤ c ∧ c ≤ 122
  · rw [decide_eq_true h, decide_eq_true (List.mem_range'_1.mpr ⟨h.1, by omega⟩)]
  · rw [decide_eq_false h, decide_eq_false fun z => h (by have := List.mem_range'_1.mp z; omega)]
/-- a thing that the texts take: shown well, not too deep -/
structure Thing (n m : Nat) (d : PyData) : Prop where
  fine : fine d = true
  deep : d.depth ≤ n
  wt : wt d ≤ m
theorem Thing.mono {n m n' m' : Nat} {d : PyData} (h : Thing n m d) (h1 : n ≤ n') (h2 : m ≤ m') : Thing n' m' d := ⟨h.fine, Nat.le_trans h.deep h1, Nat.le_trans h.wt h2⟩
theorem Thing.ok {n m : Nat} {d : PyData} (h : Thing n m d) (h1 : n ≤ 60) (h2 : m ≤ 16000000) : Ok d := ⟨h.fine, Nat.le_trans h.deep h1, Nat.le_trans h.wt h2⟩
theorem Val.thing {n m : Nat} {d : PyData} (h : Val n m d) : Thing n (12 * m) d := ⟨val_fine d h.val, h.deep, by have := val_wt d h.val; have := h.size; omega⟩
theorem Thing.item {n m : Nat} {ds : List PyData} (h : Thing n m (.list ds)) {d : PyData} (hd : d ∈ ds) : Thing (n - 1) m d := by
  have h1 := h.fine
  have h2 := h.deep
  have h3 := h.wt
  simp only [Tx.fine] at h1
  simp only [PyData.depth] at h2
  simp only [Tx.wt] at h3
  have := depth_mem hd
  have := wt_mem hd
  exact ⟨fineAll_iff.mp h1 d hd, by omega, by omega⟩
mutual
theorem depth_wt : ∀ d : PyData, Tx.fine d = true → d.depth ≤ Tx.wt d
  | .none, _ => by simp [PyData.depth]
  | .bool _, _ => by simp [PyData.depth]
  | .int _, _ => by simp [PyData.depth]
  | .str _, _ => by simp [PyData.depth]
  | .list xs, h => by
    simp only [Tx.fine] at h
    have := depthAll_wt xs h
    simp only [PyData.depth, Tx.wt]
    omega
  | .tuple xs, h => by
    simp only [Tx.fine] at h
    have := depthAll_wt xs h
    simp only [PyData.depth, Tx.wt]
    omega
  | .dict _, h => by simp [Tx.fine] at h
theorem depthAll_wt : ∀ xs : List PyData, fineAll xs = true → PyData.depthAll xs ≤ wtAll xs
  | [], _ => by simp [PyData.depthAll]
  | x :: xs, h => by
    simp only [fineAll, Bool.and_eq_true] at h
    have := depth_wt x h.1
    have := depthAll_wt xs h.2
    simp only [PyData.depthAll, wtAll]
    omega
end
theorem len_le_wtAll : ∀ xs : List PyData, 2 * xs.length ≤ wtAll xs
  | [] => by simp [wtAll]
  | x :: xs => by
    have := len_le_wtAll xs
    simp only [wtAll, List.length_cons]
    omega
theorem Thing.len {n m : Nat} {ds : List PyData} (h : Thing n m (.list ds)) : 2 * ds.length ≤ m := by
  have h3 := h.wt
  simp only [Tx.wt] at h3
  have := len_le_wtAll ds
  omega
abbrev sIsText : Stmt := top 7
theorem scIsText : FnScope ["thing", "sign"] ["thing"] (defScope sIsText) := ⟨rfl, rfl, rfl, by decide +kernel, rfl, by decide +kernel, by decide +kernel⟩
abbrev sWrongPlace : Stmt := top 8
theorem scWrongPlace : FnScope ["thing", "at", "one", "found"] ["thing"] (defScope sWrongPlace) := ⟨rfl, rfl, rfl, by decide +kernel, rfl, by decide +kernel, by decide +kernel⟩
abbrev sIsValue : Stmt := top 9
theorem scIsValue : FnScope ["thing"] ["thing"] (defScope sIsValue) := ⟨rfl, rfl, rfl, by decide +kernel, rfl, by decide +kernel, by decide +kernel⟩
abbrev sCheckValue : Stmt := top 10
theorem scCheckValue : FnScope ["thing", "place"] ["thing"] (defScope sCheckValue) := ⟨rfl, rfl, rfl, by decide +kernel, rfl, by decide +kernel, by decide +kernel⟩
def spIsText (K : PySem.W.Frag) : Sp := fun vs H Q _ => ∃ (v : V) (d : PyData), vs = [v] ∧ Dp K H v d ∧ wt d ≤ 16000000 ∧ ∀ H', Same H H' → Q (.bl (isTxt d)) H'
/-- wrong_place, program's or law's: nothing, or the place -/
def spWrongPlace (K : PySem.W.Frag) (n : Nat) : Sp := fun vs H Q _ => ∃ (v : V) (d : PyData), vs = [v] ∧ Dp K H v d ∧ Thing (n - 1) 16000000 d ∧ 1 ≤ n ∧
  ∀ (u : V) (H' : Hp), Same H H' → (wrongP d = none → u = .non) → (∀ p, wrongP d = some p → Dp K H' u (plD p)) → Q u H'
def spIsValue (K : PySem.W.Frag) : Sp := fun vs H Q _ => ∃ (v : V) (d : PyData), vs = [v] ∧ Dp K H v d ∧ Thing 29 16000000 d ∧ ∀ H', Same H H' → Q (.bl (wrongP d).isNone) H'
def spCheckValue (K : PySem.W.Frag) (C : Addr) : Sp := fun vs H Q E => ∃ (v : V) (d : PyData), vs = [v] ∧ Dp K H v d ∧ Thing 29 16000000 d ∧ (wrongP d = none → ∀ H', Same H H' → Q .non H') ∧
  ∀ p, wrongP d = some p → ∀ (e : Addr) (u : V) (H' : Hp), Same H H' → H' e = some (.xd [("place", u)]) → Dp K H' u (plD p) → E (.ref C) (some e) H'
theorem pe_gcl {X : Cx} {x : Str} {C : Addr} {pos : Pos} (h : X.mg x = some (.ref C)) (gl : Gl X x) (hd : (x == ("__debug__" : Str)) = false := by decide) : PE X (.Name x pos) (tC (.ref C)) := pe_glob gl h rfl hd
theorem pe_gs {X : Cx} {x z : Str} {pos : Pos} (h : ∃ t, X.mg x = some (.str z t)) (gl : Gl X x) (hd : (x == ("__debug__" : Str)) = false := by decide) : PE X (.Name x pos) (tC (.str z)) := by
  obtain ⟨t, e⟩ := h
  exact pe_glob gl e ⟨t, rfl⟩ hd
section
variable {P : Program} {w : World} {K : PySem.W.Frag} {mg : Str → Option Value} {base : Heap}
theorem d_is_text (h : Has K mg "is_text" sIsText) (B : Bi mg) (g_LETTERS : ∃ t, mg "LETTERS" = some (.str "abcdefghijklmnopqrstuvwxyz" t)) : Dfn P w K mg base CX0 1 "is_text" ["thing"] (spIsText K) := by
  refine dfn0 h B scIsText (fun _ _ _ _ _ _ us hl => match us, hl with | [_], _ => rfl) (fun vs H Q E h => ?_) (fun f cv A out s H vs Q E c h => ?_)
  · obtain ⟨v, d, rfl, _⟩ := h
    rfl
  obtain ⟨v, d, rfl, hd, hw, q⟩ := h
  refine ⟨_, (pss_one (ps_ret (pe_and (pe_callB (call_isD (T := "str")) (by rfl) c.b.isinstance (by decide +kernel) (pa_cons (pv 0) (pa_cons (pe_bltn (v := .ty "str") (by rfl) c.b.str (by decide +kernel) rfl) pa_nil))) (pe_one (pe_callB (cr_all rfl) (by rfl) c.b.all (by decide +kernel) (pa_cons (pe_lc (own := [("sign", 1)]) (g := (gName 1)) (tt := tYes) rfl scIsText.nd (pi_str (pv 0)) (blkOk_by (own := [("sign", 1)]) (N := ["thing", "sign"]) (sc := defScope sIsText) (by decide +kernel)) (fun _ _ _ _ _ => (pg_name (i := 1) scIsText.nd rfl (Or.inl rfl))) (fun _ _ _ _ _ => pts_nil) (fun _ _ _ _ _ => (pe_cmpR op_in_sign (pv 1) (pe_gs g_LETTERS (by rfl)) (by rfl)))) pa_nil)))))), ?_⟩
  refine ⟨_, rfl, v, d, _, rfl, hd, kit_str _, _, rfl, ?_⟩
  cases d with
  | str x =>
    cases hd
    refine iteT ⟨_, rfl, x, rfl, fun L hL => ?_⟩
    simp only [Tx.wt] at hw
    refine lc_it (walk_str (z := x)) (fun i H' => Same H H' ∧ H' L = some (.lst ((x.cps.toList.take i).map fun c => V.bl (decide (97 ≤ c ∧ c ≤ 122)))))
      ⟨same_new hL _, upd_same⟩ (fun _ _ _ _ => trivial) ?_ ?_
    · rintro i y H1 H2 hi ⟨sm, hL1⟩ ⟨rfl, ch, hc, rfl⟩
      refine ⟨rfl, _, rfl, ch, _, rfl, rfl, _, hL1, ?_, (fun b o e => ?_), ?_⟩
      · rw [List.length_map, List.length_take, Array.length_toList, sizeLine_eq]
        have : x.cps.size ≤ 1600000 := by
          have : x.length = x.cps.size := rfl
          omega
        omega
      · rw [upd_ne (ne_of_none e hL)]
        exact sm _ _ e
      · rw [upd_same, List.take_add_one, Array.getElem?_toList, hc, List.map_append, abc_mem]
        rfl
    · rintro H1 ⟨sm, hL1⟩
      rw [← Array.length_toList, List.take_length] at hL1
      refine ⟨L, x.cps.toList.map fun c => decide (97 ≤ c ∧ c ≤ 122), rfl, SqL.of (by rw [hL1, List.map_map]; rfl), ?_⟩
      have := q _ sm
      simp only [isTxt, ltr] at this
      rw [List.all_map]
      exact this
  | none => exact iteF (q H (Same.refl _))
  | bool _ => exact iteF (q H (Same.refl _))
  | int _ => exact iteF (q H (Same.refl _))
  | list _ => exact iteF (q H (Same.refl _))
  | tuple _ => exact iteF (q H (Same.refl _))
  | dict _ => exact iteF (q H (Same.refl _))
theorem d_wrong_place (h : Has K mg "wrong_place" sWrongPlace) (B : Bi mg) (D_is_text : Dfn P w K mg base CX0 1 "is_text" ["thing"] (spIsText K)) :
    ∀ n, Dfn P w K mg base CX0 (n + 1) "wrong_place" ["thing"] (spWrongPlace K n)
  | 0 => (dfn_none h (fun _ _ _ _ _ _ us hl => match us, hl with | [_], _ => rfl) fun vs H Q E z => by
    obtain ⟨_, _, _, _, _, z, _⟩ := z
    omega).mono (by omega)
  | n + 1 => by
    have D_wrong_place := d_wrong_place h B D_is_text n
    refine dfn0 (k := n + 1) h B scWrongPlace (fun _ _ _ _ _ _ us hl => match us, hl with | [_], _ => rfl) (fun vs H Q E h => ?_) (fun f cv A out s H vs Q E c h => ?_)
    · obtain ⟨v, d, rfl, _⟩ := h
      rfl
    obtain ⟨v, d, rfl, hd, th, _, q⟩ := h
    refine ⟨_, (pss_cons (ps_if (pt_val (pe_callB (call_isD (T := "list")) (by rfl) c.b.isinstance (by decide +kernel) (pa_cons (pv 0) (pa_cons (pe_bltn (v := .ty "list") (by rfl) c.b.list (by decide +kernel) rfl) pa_nil)))) (pss_cons (ps_for PassesOwn.never rfl (pi_enum (by rfl) c.b.enumerate (pa_cons (pv 0) pa_nil)) (pg_tup rfl (pgs_cons (pg_name (i := 1) scWrongPlace.nd rfl (Or.inl rfl)) (pgs_cons (pg_name (i := 2) scWrongPlace.nd rfl (Or.inl rfl)) pgs_nil)))
    (pss_cons (ps_set (i := 3) scWrongPlace.nd rfl (Or.inl rfl) (pe_d D_wrong_place c (by omega) (by rfl) (pa_cons (pv 2) pa_nil)))
    (pss_one (ps_if (pt_cmpR op_notN (pv 3) pe_non (nomark _)) (pss_one (ps_ret (pe_op op_catT (pe_tup (pa_cons (pv 1) pa_nil)) (pv 3)))) pss_nil))))
    (pss_one (ps_ret pe_non))) pss_nil)
    (pss_one (ps_ret (pe_ifExp (PW.pt (pw_or (pt_cmpR op_isN (pv 0) pe_non (nomark _)) (pw_or1 (pt_val (pe_d D_is_text c (by omega) (by rfl) (pa_cons (pv 0) pa_nil)))))) pe_non (pe_tup pa_nil))))), ?_⟩
    refine ⟨_, rfl, v, d, _, rfl, hd, kit_list _, _, rfl, ?_⟩
    cases d with
    | list ds =>
      cases hd with
      | @lst a xs _ hs ha =>
      refine iteT ⟨_, rfl, a, xs, rfl, hs, ?_⟩
      have hlen := DpAll.length ha
      refine for_it (walk_enum (K := K) (a := a) (xs := xs)) (fun i σ H' => ∃ (u1 u2 u3 : Option V), σ = [some (.ref a), u1, u2, u3] ∧ Same H H' ∧ wrongAll 0 ds = wrongAll i (ds.drop i))
        ⟨none, none, none, rfl, Same.refl _, rfl⟩ (fun _ _ _ _ z => by obtain ⟨_, _, _, _, sm, _⟩ := z; exact sm.seq hs) ?_ ?_
      · rintro i y σ H1 H2 hi ⟨u1, u2, u3, rfl, sm, ew⟩ ⟨T, y1, y2, rfl, hT, rfl, e1, e2⟩
        cases e1
        obtain ⟨d, f1, f2⟩ := DpAll.get ha e2
        have hm := List.mem_of_getElem? f1
        have sm2 := sm.trans (same_new hT (.tup [.int ((i : Nat) : Int), y2]))
        refine ⟨T, _, rfl, SqT.of upd_same, rfl, _, _, rfl, _, _, rfl, rfl, ?_⟩
        have thd : Thing (n - 1) 16000000 d := (th.item hm)
        have n1 : 1 ≤ n := by
          have := th.deep
          simp only [PyData.depth] at this
          omega
        refine ⟨_, rfl, y2, d, rfl, dp_mono sm2 d y2 f2, thd, n1, fun u H3 sm3 h0 h1 => ?_⟩
        refine ⟨_, rfl, rfl, _, rfl, ?_⟩
        cases ep : wrongP d with
        | none =>
          have eu := h0 ep
          subst eu
          exact iteF ⟨_, _, _, rfl, sm2.trans sm3, wrongAll_drop f1 ep ew⟩
        | some p =>
          have hp := h1 p ep
          have wr : wrongP (.list ds) = some (i :: p) := by rw [wrongP]; exact wrongAll_at f1 ep ew
          cases hp with
          | @tup ta txs _ hts hta =>
          refine iteT ⟨_, rfl, (by show 1 ≤ sizeLine; decide), fun q1 hq1 => ⟨_, rfl, q1, ta, _, txs, rfl, rfl, SqT.of upd_same, Same.sqT (same_new hq1 _) hts, (by intro z; cases z), ?_, fun z => ?_, fun z q2 hq2 => ?_⟩⟩
          · have l1 := DpAll.length hta
            rw [List.length_map] at l1
            have l2 := wrong_len d p ep
            have l3 := depth_wt d thd.fine
            have l4 := thd.wt
            show 1 + txs.length ≤ sizeLine
            rw [sizeLine_eq]
            omega
          · have lp : p = [] := by
              have l1 := DpAll.length hta
              rw [z, List.length_map] at l1
              exact List.eq_nil_of_length_eq_zero l1.symm
            refine q (.ref q1) _ ((sm2.trans sm3).trans (same_new hq1 _)) (fun e => by rw [wr] at e; cases e) fun p' e => ?_
            rw [wr] at e
            cases e
            rw [lp]
            exact .tup (SqT.of upd_same) (.cons (.int _) .nil)
          · refine q (.ref q2) _ (((sm2.trans sm3).trans (same_new hq1 _)).trans (same_new hq2 _)) (fun e => by rw [wr] at e; cases e) fun p' e => ?_
            rw [wr] at e
            cases e
            exact .tup (SqT.of upd_same) (.cons (.int _) (dpAll_mono ((same_new hq1 _).trans (same_new hq2 _)) _ _ hta))
      · rintro σ H1 ⟨u1, u2, u3, rfl, sm, ew⟩
        have wr : wrongP (.list ds) = none := by rw [wrongP, ew, hlen, List.drop_length]; rfl
        exact q .non H1 sm (fun _ => rfl) fun p e => by rw [wr] at e; cases e
    | none =>
      cases hd
      exact iteF ⟨_, rfl, rfl, _, rfl, iteT (iteT (q .non H (Same.refl _) (fun _ => rfl) fun p e => by simp [wrongP] at e))⟩
    | dict _ => cases hd
    | str x =>
      cases hd
      refine iteF ⟨_, rfl, rfl, _, rfl, iteF ⟨_, rfl, _, .str x, rfl, .str x, th.wt, fun H1 sm => ⟨_, rfl, ?_⟩⟩⟩
      by_cases hx : ltr x = true
      · have e1 : isTxt (.str x) = true := hx
        have e2 : wrongP (.str x) = none := by rw [wrongP, if_pos hx]
        rw [e1]
        exact iteT (q .non H1 sm (fun _ => rfl) fun p e => by rw [e2] at e; cases e)
      · have e1 : isTxt (.str x) = false := by simpa [isTxt] using hx
        have e2 : wrongP (.str x) = some [] := by rw [wrongP, if_neg hx]
        rw [e1]
        refine iteF ⟨(by show 0 ≤ sizeLine; decide), fun r hr => q (.ref r) _ (sm.trans (same_new hr _)) (fun e => by rw [e2] at e; cases e) fun p e => ?_⟩
        rw [e2] at e
        cases e
        exact .tup (SqT.of upd_same) .nil
    | bool y =>
      cases hd
      refine iteF ⟨_, rfl, rfl, _, rfl, iteF ⟨_, rfl, _, .bool y, rfl, .bl y, th.wt, fun H1 sm => ⟨_, rfl, iteF ⟨(by show 0 ≤ sizeLine; decide), fun r hr => q (.ref r) _ (sm.trans (same_new hr _)) (fun e => by simp [wrongP] at e) fun p e => ?_⟩⟩⟩⟩
      simp only [wrongP] at e
      cases e
      exact .tup (SqT.of upd_same) .nil
    | int y =>
      cases hd
      refine iteF ⟨_, rfl, rfl, _, rfl, iteF ⟨_, rfl, _, .int y, rfl, .int y, th.wt, fun H1 sm => ⟨_, rfl, iteF ⟨(by show 0 ≤ sizeLine; decide), fun r hr => q (.ref r) _ (sm.trans (same_new hr _)) (fun e => by simp [wrongP] at e) fun p e => ?_⟩⟩⟩⟩
      simp only [wrongP] at e
      cases e
      exact .tup (SqT.of upd_same) .nil
    | tuple ds =>
      cases hd with
      | tup hs ha =>
      refine iteF ⟨_, rfl, rfl, _, rfl, iteF ⟨_, rfl, _, .tuple ds, rfl, .tup hs ha, th.wt, fun H1 sm => ⟨_, rfl, iteF ⟨(by show 0 ≤ sizeLine; decide), fun r hr => q (.ref r) _ (sm.trans (same_new hr _)) (fun e => by simp [wrongP] at e) fun p e => ?_⟩⟩⟩⟩
      simp only [wrongP] at e
      cases e
      exact .tup (SqT.of upd_same) .nil
theorem d_is_value (h : Has K mg "is_value" sIsValue) (B : Bi mg) (D_wrong_place : Dfn P w K mg base CX0 31 "wrong_place" ["thing"] (spWrongPlace K 30)) : Dfn P w K mg base CX0 32 "is_value" ["thing"] (spIsValue K) := by
  refine dfn0 (k := 31) h B scIsValue (fun _ _ _ _ _ _ us hl => match us, hl with | [_], _ => rfl) (fun vs H Q E h => ?_) (fun f cv A out s H vs Q E c h => ?_)
  · obtain ⟨v, d, rfl, _⟩ := h
    rfl
  obtain ⟨v, d, rfl, hd, th, q⟩ := h
  refine ⟨_, (pss_one (ps_ret (pe_cmpR op_isN (pe_d D_wrong_place c (by omega) (by rfl) (pa_cons (pv 0) pa_nil)) pe_non (nomark _)))), ?_⟩
  refine ⟨_, rfl, v, d, rfl, hd, th, by decide, fun u H1 sm h0 h1 => ⟨rfl, ?_⟩⟩
  have := q H1 sm
  cases e : wrongP d with
  | none => rw [e] at this; rw [h0 e]; exact this
  | some p =>
    rw [e] at this
    have hu := h1 p e
    cases hu
    exact this
theorem d_check_value {C : Addr} (h : Has K mg "check_value" sCheckValue) (B : Bi mg) (D_wrong_place : Dfn P w K mg base CX0 31 "wrong_place" ["thing"] (spWrongPlace K 30)) (X_BadValue : Err1 P w K mg base "BadValue" "place" C) :
    Dfn P w K mg base (L2.CX P w) 35 "check_value" ["thing"] (spCheckValue K C) := by
  refine dfnX (k := 34) h B scCheckValue (fun _ _ _ _ _ _ us hl => match us, hl with | [_], _ => rfl) (fun vs H Q E h => ?_) (fun f cv A out s H vs Q E c h => ?_)
  · obtain ⟨v, d, rfl, _⟩ := h
    rfl
  obtain ⟨v, d, rfl, hd, th, q, qe⟩ := h
  refine ⟨_, (pss_cons (ps_set (i := 1) scCheckValue.nd rfl (Or.inl rfl) (pe_d D_wrong_place c (by omega) (by rfl) (pa_cons (pv 0) pa_nil)))
    (pss_one (ps_if (pt_cmpR op_notN (pv 1) pe_non (nomark _)) (pss_one (ps_err1 (k := 0) X_BadValue rfl (c.r.mono (by omega)) (takes_of rfl rfl rfl rfl) (pa_cons (pv 1) pa_nil) (by rfl))) pss_nil))), ?_⟩
  refine ⟨_, rfl, v, d, rfl, hd, th, by decide, fun u H1 sm h0 h1 => ⟨_, rfl, rfl, _, rfl, ?_⟩⟩
  cases e : wrongP d with
  | none =>
    rw [h0 e]
    exact iteF (q e H1 sm)
  | some p =>
    have hu := h1 p e
    cases hu with
    | tup hs ha =>
    refine iteT ⟨_, rfl, err1 fun r hr => qe p e r _ _ (sm.trans (same_new hr _)) upd_same (dp_mono (same_new hr _) (plD p) _ (.tup hs ha))⟩
end
end Tx

namespace Tx
open PySem PySem.Spec PyProof.Rows L2
/-! ## Rules of the kit with the written part named (within a comprehension it must be) -/
section
variable {X : Cx} {K : PySem.W.Frag}
theorem op_catTK (h : X.K = K) : OpR X (binaryOp .Add) (rCatT K) := h ▸ op_catT
theorem op_eqDK (h : X.K = K) (u : X.A.units + 64 < cLine) : OpR X (compareOp .Eq) (rEqD K) := h ▸ op_eqD u
theorem op_neDK (h : X.K = K) (u : X.A.units + 64 < cLine) : OpR X (compareOp .NotEq) (rNeD K) := h ▸ op_neD u
theorem ix_listK (h : X.K = K) : IxR X (rIxL K) := h ▸ ix_list
theorem ix_tupK (h : X.K = K) : IxR X (rIxT K) := h ▸ ix_tup
theorem sl_listK (h : X.K = K) : SlR X (rSlL K) := h ▸ sl_list
theorem sl_tupK (h : X.K = K) : SlR X (rSlT K) := h ▸ sl_tup
theorem call_len_seqK (h : X.K = K) : CallR X (.builtin "len") (fun xs H Q => ∃ p ys, xs = [.ref p] ∧ (SqL K H p ys ∨ SqT K H p ys) ∧ Q (.int ys.length) H) := h ▸ call_len_seq
theorem call_isDK {T : String} (h : X.K = K) : CallR X (.builtin "isinstance") (rIsD K T) := h ▸ call_isD
theorem call_reprK (h : X.K = K) (gd : X.A.guards = some []) (hu : X.A.units + 64 < cLine) : CallR X (.builtin "repr") (rRepr K) := h ▸ call_repr gd hu
theorem op_in_seqK (h : X.K = K) : OpR X (compareOp .In) (rIn K false) := h ▸ op_in_seq
end
/-! ## Data that stays while the things at F are changed -/
def hide (F : List Addr) (H : Hp) : Hp := fun a => if a ∈ F then none else H a
def Dq (K : PySem.W.Frag) (F : List Addr) (H : Hp) (v : V) (d : PyData) : Prop := Dp K (hide F H) v d
def DqAll (K : PySem.W.Frag) (F : List Addr) (H : Hp) (vs : List V) (ds : List PyData) : Prop := DpAll K (hide F H) vs ds
/-- the things at F are there -/
def There (F : List Addr) (H : Hp) : Prop := ∀ a ∈ F, H a ≠ none
section
variable {K : PySem.W.Frag} {F : List Addr} {H H' : Hp} {p : Addr} {o : HO} {v : V} {d : PyData} {vs : List V} {ds : List PyData}
theorem hide_in (h : p ∈ F) : hide F H p = none := if_pos h
theorem hide_out (h : p ∉ F) : hide F H p = H p := if_neg h
theorem hide_le : Same (hide F H) H := fun a o e => by
  unfold hide at e
  split at e
  · cases e
  · exact e
theorem hide_same (s : Same H H') : Same (hide F H) (hide F H') := fun a o e => by
  unfold hide at e ⊢
  split at e
  · cases e
  · rename_i h; rw [if_neg h]; exact s a o e
theorem hide_cons : Same (hide (p :: F) H) (hide F H) := fun a o e => by
  unfold hide at e ⊢
  split at e
  · cases e
  · rename_i h; rw [if_neg fun z => h (List.mem_cons_of_mem _ z)]; exact e
theorem hide_sub {F' : List Addr} (h : ∀ a ∈ F, a ∈ F') : Same (hide F' H) (hide F H) := fun a o e => by
  unfold hide at e ⊢
  split at e
  · cases e
  · rename_i z; rw [if_neg fun y => z (h a y)]; exact e
theorem There.fresh (t : There F H) (h : H p = none) : p ∉ F := fun z => t p z h
theorem There.same (t : There F H) (s : Same H H') : There F H' := fun a h => by
  cases q : H a with
  | none => exact absurd q (t a h)
  | some o => rw [s a o q]; simp
theorem There.upd (t : There F H) : There F (upd H p o) := fun a h => by
  by_cases z : a = p
  · rw [z, upd_same]; simp
  · rw [upd_ne z]; exact t a h
theorem There.cons (t : There F H) (h : H p = some o) : There (p :: F) H := fun a z => by
  cases z with
  | head => rw [h]; simp
  | tail _ z => exact t a z
theorem There.one (h : H p = some o) : There [p] H := fun a z => by rw [List.mem_singleton.mp z, h]; simp
theorem hide_upd (h : p ∉ F) : hide F (upd H p o) = upd (hide F H) p o := by
  funext a
  by_cases z : a = p
  · subst z; rw [hide_out h, upd_same, upd_same]
  · rw [upd_ne z]
    unfold hide
    rw [upd_ne z]
theorem hide_upd_in (h : p ∈ F) : hide F (upd H p o) = hide F H := by
  funext a
  unfold hide
  split
  · rfl
  · rename_i z; rw [upd_ne fun y => z (by rw [y]; exact h)]
theorem hide_mut (h : p ∈ F) : Same (hide F H) (hide F (upd H p o)) := by rw [hide_upd_in h]; exact Same.refl _
theorem Dq.dp (h : Dq K F H v d) : Dp K H v d := dp_mono hide_le d v h
theorem DqAll.dp (h : DqAll K F H vs ds) : DpAll K H vs ds := dpAll_mono hide_le ds vs h
theorem Dq.to (h : Dq K F H v d) (s : Same (hide F H) (hide F H')) : Dq K F H' v d := dp_mono s d v h
theorem DqAll.to (h : DqAll K F H vs ds) (s : Same (hide F H) (hide F H')) : DqAll K F H' vs ds := dpAll_mono s ds vs h
theorem Dq.same (h : Dq K F H v d) (s : Same H H') : Dq K F H' v d := h.to (hide_same s)
theorem DqAll.same (h : DqAll K F H vs ds) (s : Same H H') : DqAll K F H' vs ds := h.to (hide_same s)
theorem Dq.less (h : Dq K (p :: F) H v d) : Dq K F H v d := dp_mono hide_cons d v h
theorem DqAll.less (h : DqAll K (p :: F) H vs ds) : DqAll K F H vs ds := dpAll_mono hide_cons ds vs h
/-- a further thing is guarded that is new -/
theorem Dq.more (h : Dq K F H v d) (n : H p = none) : Dq K (p :: F) H v d := dp_mono (fun a o e => by
  have z : a ≠ p := fun z => by rw [z] at e; have := hide_le p o e; rw [n] at this; cases this
  unfold hide at e ⊢
  split at e
  · cases e
  · rename_i y; rw [if_neg fun q => by cases q with | head => exact z rfl | tail _ q => exact y q]; exact e) d v h
theorem DqAll.more (h : DqAll K F H vs ds) (n : H p = none) : DqAll K (p :: F) H vs ds := dpAll_mono (fun a o e => by
  have z : a ≠ p := fun z => by rw [z] at e; have := hide_le p o e; rw [n] at this; cases this
  unfold hide at e ⊢
  split at e
  · cases e
  · rename_i y; rw [if_neg fun q => by cases q with | head => exact z rfl | tail _ q => exact y q]; exact e) ds vs h
/-- a list (a tuple) of one's own -/
theorem Dq.lst (n : p ∉ F) (e : H p = some (.lst vs)) (h : DqAll K (p :: F) H vs ds) : Dq K F H (.ref p) (.list ds) := L2.Dp.lst (SqL.of (by rw [hide_out n]; exact e)) h.less
theorem Dq.tup (n : p ∉ F) (e : H p = some (.tup vs)) (h : DqAll K F H vs ds) : Dq K F H (.ref p) (.tuple ds) := L2.Dp.tup (SqT.of (by rw [hide_out n]; exact e)) h
theorem Dq.newL (n : H p = none) (t : There F H) (h : DqAll K F H vs ds) : Dq K F (upd H p (.lst vs)) (.ref p) (.list ds) :=
  L2.Dp.lst (SqL.of (by rw [hide_out (t.fresh n), upd_same])) (h.same (same_new n _))
theorem Dq.newT (n : H p = none) (t : There F H) (h : DqAll K F H vs ds) : Dq K F (upd H p (.tup vs)) (.ref p) (.tuple ds) :=
  L2.Dp.tup (SqT.of (by rw [hide_out (t.fresh n), upd_same])) (h.same (same_new n _))
/-- a place: numbers alone -/
theorem place_q {b : Addr} {q : List Nat} (hb : ∀ ys, H b ≠ some (.tup ys)) (hf : ∀ o ys, H b ≠ some (.frz o (.tup ys))) (h : Dp K H v (plD q)) : Dq K [b] H v (plD q) := by
  cases h with
  | @tup a xs _ hs ha =>
  have ha' : ∀ (q : List Nat) (xs : List V), DpAll K H xs (q.map fun (n : Nat) => PyData.int (n : Int)) → DpAll K (hide [b] H) xs (q.map fun (n : Nat) => PyData.int (n : Int)) := by
    intro q
    induction q with
    | nil => intro xs h; cases h; exact .nil
    | cons n q ih =>
      intro xs h
      cases h with
      | cons h1 h2 => cases h1; exact .cons (.int _) (ih _ h2)
  refine L2.Dp.tup ?_ (ha' q xs ha)
  rcases hs with (e | ⟨o, e⟩) | e
  · exact .inl (.inl (by rw [hide_out fun z => hb xs (by rw [← List.mem_singleton.mp z]; exact e)]; exact e))
  · exact .inl (.inr ⟨o, by rw [hide_out fun z => hf o xs (by rw [← List.mem_singleton.mp z]; exact e)]; exact e⟩)
  · exact .inr e
end
section
variable {K : PySem.W.Frag} {b : Addr} {F : List Addr} {H H' J' : Hp} {v : V} {d : PyData}
theorem Stp.hide (s : Stp b H H') (h : b ∈ F) : Same (hide F H) (hide F H') := fun a o e => by
  unfold Tx.hide at e ⊢
  split at e
  · cases e
  · rename_i z; rw [if_neg z]; exact s.keep a o (fun y => z (by rw [y]; exact h)) e
theorem Stp.thereF (s : Stp b H H') (hB : Bag H b) (t : There F H) : There F H' := fun a h => s.there hB (t a h)
theorem Gro.hide (g : Gro b (hide F H) H J' H') (t : There F H) : Same J' (Tx.hide F H') := fun a o e => by
  have n : a ∉ F := fun z => by rw [g.fr a (t a z) (hide_in z)] at e; cases e
  rw [hide_out n]
  exact g.jh a o e
theorem Gro.dq (g : Gro b (Tx.hide F H) H J' H') (t : There F H) (h : Dp K J' v d) : Dq K F H' v d := dp_mono (g.hide t) d v h
theorem Bag.there (h : Bag H b) : There [b] H := by
  obtain ⟨c, m, e⟩ := h
  exact There.one e
theorem Bag.same (h : Bag H b) (s : Same H H') : Bag H' b := by
  obtain ⟨c, m, e⟩ := h
  exact ⟨c, m, s _ _ e⟩
theorem Stp.ofSame (h : Bag H b) (s : Same H H') : Stp b H H' := ⟨h.same s, SameBut.of s⟩
end
end Tx

namespace Tx
open PySem PySem.Spec PyProof.Rows L2
/-! ## k01: places drawn, parts exchanged -/
abbrev sSpots : Stmt := top 18
theorem scSpots : FnScope ["_law_value_here", "_law_found", "_law_at", "_law_one", "_law_place"] ["_law_value_here"] (defScope sSpots) := ⟨rfl, rfl, rfl, by decide +kernel, rfl, by decide +kernel, by decide +kernel⟩
abbrev sPut : Stmt := top 19
theorem scPut : FnScope ["_law_value_here", "_law_place", "_law_thing", "_law_at", "_law_one"] ["_law_value_here", "_law_place", "_law_thing"] (defScope sPut) := ⟨rfl, rfl, rfl, by decide +kernel, rfl, by decide +kernel, by decide +kernel⟩
abbrev sOdd : Stmt := top 20
theorem scOdd : FnScope ["_law_bag_here", "_law_turn", "_law_pick", "_law_word", "_law_cut"] ["_law_bag_here", "_law_turn"] (defScope sOdd) := ⟨rfl, rfl, rfl, by decide +kernel, rfl, by decide +kernel, by decide +kernel⟩
abbrev sWrong : Stmt := top 21
theorem scWrong : FnScope ["_law_thing", "_law_is_word", "_law_at", "_law_one", "_law_found", "_law_sign"] ["_law_thing"] (defScope sWrong) := ⟨rfl, rfl, rfl, by decide +kernel, rfl, by decide +kernel, by decide +kernel⟩
/-- (i,) + place -/
theorem dp_cons {K : PySem.W.Frag} {H : Hp} {i : Nat} {p : List Nat} {xs : List V} (h : DpAll K H xs (p.map fun (n : Nat) => PyData.int (n : Int))) : DpAll K H (.int (i : Int) :: xs) ((i :: p).map fun (n : Nat) => PyData.int (n : Int)) := .cons (.int _) h
/-- spots(v): places, as many as you like, none longer than the depth -/
def spSpots (K : PySem.W.Frag) (n : Nat) : Sp := fun vs H Q _ => ∃ (v : V) (d : PyData), vs = [v] ∧ Dp K H v d ∧ Thing (n - 1) 1000000 d ∧ 1 ≤ n ∧
  ∀ (a : Addr) (ts : List V) (pls : List (List Nat)) (H' : Hp), Same H H' → H a = none → H' a = some (.lst ts) → DpAll K H' ts (pls.map plD) → pls ≠ [] → (∀ p ∈ pls, p.length ≤ d.depth) → pls.length ≤ wt d → Q (.ref a) H'
theorem wt_pos : ∀ {d : PyData}, fine d = true → 1 ≤ wt d
  | .none, _ => by simp [wt]
  | .bool _, _ => by simp [wt]
  | .int _, _ => by simp [wt]
  | .str _, _ => by simp only [wt]; omega
  | .list _, _ => by simp only [wt]; omega
  | .tuple _, _ => by simp only [wt]; omega
  | .dict _, h => by simp [fine] at h
theorem wtAll_take_succ {ds : List PyData} {i : Nat} {d : PyData} (h : ds[i]? = some d) : wtAll (ds.take (i + 1)) = wtAll (ds.take i) + (wt d + 2) := by
  rw [List.take_add_one, h, wtAll_append]
  simp [wtAll]
theorem wtAll_take_le (ds : List PyData) (i : Nat) : wtAll (ds.take i) ≤ wtAll ds := by
  have e := congrArg wtAll (List.take_append_drop i ds)
  rw [wtAll_append] at e
  omega
section
variable {P : Program} {w : World} {K : PySem.W.Frag} {mg : Str → Option Value} {base : Heap}
theorem d_spots (h : Has K mg "_law_spots" sSpots) (B : Bi mg) : ∀ n, Dfn P w K mg base CX0 n "_law_spots" ["_law_value_here"] (spSpots K n)
  | 0 => dfn_none h (fun _ _ _ _ _ _ us hl => match us, hl with | [_], _ => rfl) fun vs H Q E z => by
    obtain ⟨_, _, _, _, _, z, _⟩ := z
    omega
  | n + 1 => by
    have D_law_spots := d_spots h B n
    refine dfn0 (k := n) h B scSpots (fun _ _ _ _ _ _ us hl => match us, hl with | [_], _ => rfl) (fun vs H Q E h => ?_) (fun f cv A out s H vs Q E c h => ?_)
    · obtain ⟨v, d, rfl, _⟩ := h
      rfl
    obtain ⟨v, d, rfl, hd, th, _, q⟩ := h
    refine ⟨_, (pss_cons (ps_set (i := 1) scSpots.nd rfl (Or.inl rfl) (pe_lst (pa_cons (pe_tup pa_nil) pa_nil)))
    (pss_cons (ps_if (pt_val (pe_callB (call_isD (T := "list")) (by rfl) c.b.isinstance (by decide +kernel) (pa_cons (pv 0) (pa_cons (pe_bltn (v := .ty "list") (by rfl) c.b.list (by decide +kernel) rfl) pa_nil)))) (pss_one (ps_for PassesOwn.never rfl (pi_enum (by rfl) c.b.enumerate (pa_cons (pv 0) pa_nil)) (pg_tup rfl (pgs_cons (pg_name (i := 2) scSpots.nd rfl (Or.inr rfl)) (pgs_cons (pg_name (i := 3) scSpots.nd rfl (Or.inl rfl)) pgs_nil)))
    (pss_one (ps_set (i := 1) scSpots.nd rfl (Or.inl rfl) (pe_op op_cat (pv 1) (pe_lc (own := [("_law_place", 4)]) (g := (gName 4)) (tt := tYes) rfl scSpots.nd (pi_list (pe_d D_law_spots c (by omega) (by rfl) (pa_cons (pv 3) pa_nil))) (blkOk_by (own := [("_law_place", 4)]) (N := ["_law_value_here", "_law_found", "_law_at", "_law_one", "_law_place"]) (sc := defScope sSpots) (by decide +kernel)) (fun _ _ _ _ _ => (pg_name (i := 4) scSpots.nd rfl (Or.inl rfl))) (fun _ _ _ _ _ => pts_nil) (fun _ _ _ _ _ => (pe_op (op_catTK (K := K) rfl) (pe_tup (pa_cons (pv 2) pa_nil)) (pv 4))))))))) pss_nil)
    (pss_one (ps_ret (pv 1))))), ?_⟩
    refine ⟨(by show 0 ≤ sizeLine; decide), fun t0 ht0 => ⟨(by show 1 ≤ sizeLine; decide), fun a0 ha0 => ?_⟩⟩
    have s1 : Same H (upd H t0 (.tup [])) := same_new ht0 _
    have s2 : Same H (upd (upd H t0 (.tup [])) a0 (.lst [.ref t0])) := s1.trans (same_new ha0 _)
    have start : DpAll K (upd (upd H t0 (.tup [])) a0 (.lst [.ref t0])) [.ref t0] (([[]] : List (List Nat)).map plD) := .cons (.tup (SqT.of (same_new ha0 _ _ _ upd_same)) .nil) .nil
    refine ⟨_, rfl, v, d, _, rfl, dp_mono s2 d v hd, kit_list _, _, rfl, ?_⟩
    have leaf : isL d = false → Q (.ref a0) (upd (upd H t0 (.tup [])) a0 (.lst [.ref t0])) := fun _ =>
      q a0 _ [[]] _ s2 (s1.free ha0) upd_same start (by simp) (fun p hp => by rw [List.mem_singleton.mp hp]; simp) (wt_pos th.fine)
    cases d with
    | list ds =>
      cases hd with
      | @lst a xs _ hs ha =>
      have hw := th.wt
      simp only [wt] at hw
      refine iteT ⟨_, rfl, a, xs, rfl, s2.seq hs, ?_⟩
      have hlen := DpAll.length ha
      refine for_it (walk_enum (K := K) (a := a) (xs := xs)) (fun i σ H' => ∃ (u1 u2 : Option V) (r : Addr) (ts : List V) (pls : List (List Nat)), σ = [some (.ref a), some (.ref r), u1, u2, none] ∧ Same H H' ∧ H r = none ∧ H' r = some (.lst ts) ∧
          DpAll K H' ts (pls.map plD) ∧ pls ≠ [] ∧ (∀ p ∈ pls, p.length ≤ PyData.depthAll ds + 1) ∧ pls.length ≤ 1 + wtAll (ds.take i))
        ⟨none, none, a0, _, [[]], rfl, s2, s1.free ha0, upd_same, start, by simp, (fun p hp => by rw [List.mem_singleton.mp hp]; simp), by simp⟩ (fun _ _ _ _ z => by obtain ⟨_, _, _, _, _, _, sm, _⟩ := z; exact sm.seq hs) ?_ ?_
      · rintro i y σ H1 H2 hi ⟨u1, u2, r, ts, pls, rfl, sm, hrn, hr, dp, pne, pl, pc⟩ ⟨T, y1, y2, rfl, hT, rfl, e1, e2⟩
        cases e1
        obtain ⟨d, f1, f2⟩ := DpAll.get ha e2
        have hm := List.mem_of_getElem? f1
        have sT := same_new hT (.tup [.int ((i : Nat) : Int), y2])
        have sm2 := sm.trans sT
        have n1 : 1 ≤ n := by
          have := th.deep
          simp only [PyData.depth] at this
          omega
        have dl := DpAll.length dp
        rw [List.length_map] at dl
        have wtk := wtAll_take_succ f1
        have wtl := wtAll_take_le ds (i + 1)
        refine ⟨T, _, rfl, SqT.of upd_same, rfl, _, _, rfl, _, _, rfl, rfl, ?_⟩
        refine ⟨_, rfl, _, rfl, y2, d, rfl, dp_mono sm2 d y2 f2, th.item hm, n1, fun a2 ts2 pls2 H3 sm3 hn3 h3 dp3 pne3 pl3 pc3 => ?_⟩
        have dl3 := DpAll.length dp3
        rw [List.length_map] at dl3
        refine ⟨a2, rfl, ⟨_, SqL.of h3⟩, fun L hL => ?_⟩
        refine lc_list (K := K) (a := a2) (xs := ts2) (fun j H' => ∃ us : List V, Same H3 H' ∧ H' L = some (.lst us) ∧ DpAll K (hide [L] H') us ((pls2.take j).map fun p => plD (i :: p)))
          ⟨[], same_new hL _, upd_same, .nil⟩ (fun _ _ _ z => by obtain ⟨_, z, _⟩ := z; exact z.seq (SqL.of h3)) ?_ ?_
        · rintro j x H4 hx ⟨us, s4, hL4, d4⟩
          obtain ⟨pd, g1, g2⟩ := DpAll.get dp3 hx
          rw [List.getElem?_map] at g1
          obtain ⟨p, gp, rfl⟩ := Option.map_eq_some_iff.mp g1
          have g3 := dp_mono s4 _ _ g2
          cases g3 with
          | @tup ta txs _ hts hta =>
          have ul := DpAll.length d4
          rw [List.length_map, List.length_take] at ul
          have lt := DpAll.length hta
          rw [List.length_map] at lt
          have lp := pl3 p (List.mem_of_getElem? gp)
          have hde := depth_wt d (th.item hm).fine
          have hdw := (th.item hm).wt
          have tk1 : (pls2.take (j + 1)).map (fun p => plD (i :: p)) = (pls2.take j).map (fun p => plD (i :: p)) ++ [plD (i :: p)] := by
            rw [List.take_add_one, gp, List.map_append]; rfl
          have fin : ∀ (r2 : Addr) (zs : List V) (H5 : Hp), Same H4 H5 → H5 L = some (.lst us) → r2 ≠ L → H5 r2 = some (.tup zs) → DpAll K H5 zs ((i :: p).map fun (n : Nat) => PyData.int (n : Int)) →
              ∃ acc, H5 L = some (.lst acc) ∧ acc.length < sizeLine ∧ ∃ us, Same H3 (upd H5 L (.lst (acc ++ [.ref r2]))) ∧ upd H5 L (.lst (acc ++ [.ref r2])) L = some (.lst us) ∧ DpAll K (hide [L] (upd H5 L (.lst (acc ++ [.ref r2])))) us ((pls2.take (j + 1)).map fun p => plD (i :: p)) := by
            intro r2 zs H5 s5 hL5 rL hr2 dz
            refine ⟨us, hL5, (by rw [sizeLine_eq]; omega), us ++ [.ref r2], fun b o e => ?_, upd_same, ?_⟩
            · rw [upd_ne (ne_of_none e hL)]; exact s5 _ _ (s4 _ _ e)
            · rw [hide_upd_in (by simp), tk1]
              refine DpAll.append (dpAll_mono (hide_same s5) _ _ d4) (DpAll.one ?_)
              exact place_q (b := L) (fun ys => by rw [hL5]; intro z; cases z) (fun o ys => by rw [hL5]; intro z; cases z) (.tup (SqT.of hr2) dz)
          refine ⟨rfl, _, rfl, (by show 1 ≤ sizeLine; decide), fun q1 hq1 => ⟨_, rfl, q1, ta, _, txs, rfl, rfl, SqT.of upd_same, Same.sqT (same_new hq1 _) hts, (by intro z; cases z), ?_, fun z => ?_, fun z q2 hq2 => ?_⟩⟩
          · show 1 + txs.length ≤ sizeLine
            rw [sizeLine_eq]; omega
          · have lp0 : p = [] := by rw [z] at lt; exact List.eq_nil_of_length_eq_zero lt.symm
            have n1 : q1 ≠ L := fun y => by rw [y, hL4] at hq1; cases hq1
            refine fin q1 _ _ (same_new hq1 _) (by rw [upd_ne (Ne.symm n1)]; exact hL4) n1 upd_same ?_
            rw [lp0]
            exact .cons (.int _) .nil
          · have s5 := (same_new hq1 (.tup [.int ((i : Nat) : Int)])).trans (same_new hq2 (.tup ([.int ((i : Nat) : Int)] ++ txs)))
            have n2 : q2 ≠ L := fun y => by rw [y] at hq2; have := same_new hq1 (.tup [.int ((i : Nat) : Int)]) _ _ hL4; rw [hq2] at this; cases this
            exact fin q2 _ _ s5 (s5 _ _ hL4) n2 upd_same (.cons (.int _) (dpAll_mono s5 _ _ hta))
        · rintro H4 ⟨us, s4, hL4, d4⟩
          rw [dl3, List.take_length] at d4
          have ul := DpAll.length d4
          rw [List.length_map] at ul
          have s34 := sm2.trans (sm3.trans s4)
          refine ⟨r, L, ts, us, rfl, rfl, (sm3.trans s4) _ _ (sT _ _ hr), hL4, ?_, fun p hp => ?_⟩
          · rw [sizeLine_eq]; omega
          · refine ⟨_, _, p, ts ++ us, pls ++ pls2.map (fun p => i :: p), rfl, s34.trans (same_new hp _), s34.free hp, upd_same, ?_, ?_, ?_, ?_⟩
            · rw [List.map_append, List.map_map]
              refine DpAll.append (dpAll_mono (sT.trans (sm3.trans (s4.trans (same_new hp _)))) _ _ dp) (dpAll_mono (hide_le.trans (same_new hp _)) _ _ d4)
            · simp [pne]
            · intro x hx
              rcases List.mem_append.mp hx with hx | hx
              · exact pl x hx
              · obtain ⟨y, hy, rfl⟩ := List.mem_map.mp hx
                have := pl3 y hy
                have := depth_mem hm
                simp only [List.length_cons]
                omega
            · rw [List.length_append, List.length_map]
              omega
      · rintro σ H1 ⟨u1, u2, r, ts, pls, rfl, sm, hrn, hr, dp, pne, pl, pc⟩
        refine ⟨_, rfl, q r ts pls H1 sm hrn hr dp pne (fun p hp => by simp only [PyData.depth]; exact pl p hp) ?_⟩
        simp only [wt]
        have := wtAll_take_le ds xs.length
        omega
    | none => exact iteF ⟨_, rfl, leaf rfl⟩
    | bool _ => exact iteF ⟨_, rfl, leaf rfl⟩
    | int _ => exact iteF ⟨_, rfl, leaf rfl⟩
    | str _ => exact iteF ⟨_, rfl, leaf rfl⟩
    | tuple _ => exact iteF ⟨_, rfl, leaf rfl⟩
    | dict _ => exact iteF ⟨_, rfl, leaf rfl⟩
end
end Tx

namespace Tx
open PySem PySem.Spec PyProof.Rows L2
def putD : List Nat → PyData → PyData → PyData
  | [], _, t => t
  | i :: p, .list xs, t => .list (xs.mapIdx fun j x => if j = i then putD p x t else x)
  | _ :: _, d, _ => d
theorem plD_shaped (p : List Nat) : SeqAt.shaped (plD p) = true := by
  have h1 : ∀ p : List Nat, PyData.canLayAll0 (p.map fun (n : Nat) => PyData.int (n : Int)) = true := fun p => by
    induction p with
    | nil => rfl
    | cons n p ih => simp only [List.map_cons, PyData.canLayAll0, PyData.canLay0, ih, Bool.and_self]
  have h2 : ∀ p : List Nat, PyData.depthAll (p.map fun (n : Nat) => PyData.int (n : Int)) = 0 := fun p => by
    induction p with
    | nil => rfl
    | cons n p ih => simp only [List.map_cons, PyData.depthAll, PyData.depth, ih]; rfl
  unfold SeqAt.shaped plD
  simp only [PyData.canLay0, PyData.depth, h1, h2]
  decide
theorem eqv_pl_nil (p : List Nat) : PyData.eqv (plD p) (.tuple []) = p.isEmpty := by
  cases p with
  | nil => simp [plD, PyData.eqv, PyData.eqvAll]
  | cons n p => simp [plD, PyData.eqv, PyData.eqvAll]
theorem cutV_from1 (xs : List V) : cutV xs (some 1) none = xs.drop 1 := by
  unfold cutV
  have e : HT.sIx xs.length 0 (some 1) = min 1 xs.length := HT.sIx_nat xs.length 0 1
  rw [HT.sIx_none, e]
  cases xs with
  | nil => rfl
  | cons x xs =>
    have : min 1 (x :: xs).length = 1 := by simp
    rw [this, List.drop_one, List.tail_cons]
    exact List.take_of_length_le (by simp)
/-- put(v, place, thing) -/
def spPut (K : PySem.W.Frag) (n : Nat) : Sp := fun vs H Q _ => ∃ (F : List Addr) (v wv tv : V) (d t : PyData) (p : List Nat), vs = [v, wv, tv] ∧ There F H ∧ Dq K F H v d ∧ Dp K H wv (plD p) ∧ Dq K F H tv t ∧ p.length < n ∧ Thing 60 1000000 d ∧
  ∀ (u : V) (H' : Hp), Same H H' → Dq K F H' u (putD p d t) → Q u H'
section
variable {P : Program} {w : World} {K : PySem.W.Frag} {mg : Str → Option Value} {base : Heap}
theorem d_put (h : Has K mg "_law_put" sPut) (B : Bi mg) : ∀ n, Dfn P w K mg base CX0 n "_law_put" ["_law_value_here", "_law_place", "_law_thing"] (spPut K n)
  | 0 => dfn_none h (fun _ _ _ _ _ _ us hl => match us, hl with | [_, _, _], _ => rfl) fun vs H Q E z => by
    obtain ⟨_, _, _, _, _, _, _, _, _, _, _, _, z, _⟩ := z
    omega
  | n + 1 => by
    have D_law_put := d_put h B n
    refine dfn0 (k := n) h B scPut (fun _ _ _ _ _ _ us hl => match us, hl with | [_, _, _], _ => rfl) (fun vs H Q E h => ?_) (fun f cv A out s H vs Q E c h => ?_)
    · obtain ⟨F, v, wv, tv, d, t, p, rfl, _⟩ := h
      rfl
    obtain ⟨F, v, wv, tv, d, t, p, rfl, tF, hd, hp, ht, pn, th, q⟩ := h
    refine ⟨_, (pss_cons (ps_if (pt_cmpR (op_eqD c.r.units) (pv 1) (pe_tup pa_nil) (nomark _)) (pss_one (ps_ret (pv 2))) pss_nil)
    (pss_cons (ps_if (pt_not (pt_val (pe_callB (call_isD (T := "list")) (by rfl) c.b.isinstance (by decide +kernel) (pa_cons (pv 0) (pa_cons (pe_bltn (v := .ty "list") (by rfl) c.b.list (by decide +kernel) rfl) pa_nil))))) (pss_one (ps_ret (pv 0))) pss_nil)
    (pss_one (ps_ret (pe_lc (own := [("_law_at", 3), ("_law_one", 4)]) (g := (gTup K 2 (gCons (gName 3) (gCons (gName 4) gNil)))) (tt := tYes) rfl scPut.nd (pi_enum (by rfl) c.b.enumerate (pa_cons (pv 0) pa_nil)) (blkOk_by (own := [("_law_at", 3), ("_law_one", 4)]) (N := ["_law_value_here", "_law_place", "_law_thing", "_law_at", "_law_one"]) (sc := defScope sPut) (by decide +kernel)) (fun _ _ _ _ _ => (pg_tup rfl (pgs_cons (pg_name (i := 3) scPut.nd rfl (Or.inl rfl)) (pgs_cons (pg_name (i := 4) scPut.nd rfl (Or.inl rfl)) pgs_nil)))) (fun _ _ _ _ _ => pts_nil) (fun _ _ _ _ _ => (pe_ifExp (pt_cmpR op_eq (pv 3) (pe_ix (ix_tupK (K := K) rfl) (pv 1) pe_int (fun _ _ => rfl)) (nomark _)) (pe_d D_law_put c (by omega) (by rfl) (pa_cons (pv 4) (pa_cons (pe_slice (sl_tupK (K := K) rfl) (pv 1) (po_some pe_int) po_none) (pa_cons (pv 2) pa_nil)))) (pv 4)))))))), ?_⟩
    refine ⟨_, rfl, (by show 0 ≤ sizeLine; decide), fun e he => ⟨plD p, .tuple [], dp_mono (same_new he _) _ _ hp, .tup (SqT.of upd_same) .nil, plD_shaped p, rfl, _, rfl, ?_⟩⟩
    have s1 := same_new he (.tup [])
    rw [eqv_pl_nil]
    cases p with
    | nil => exact iteT ⟨_, rfl, q tv _ s1 (ht.same s1)⟩
    | cons i p =>
      refine iteF ⟨_, rfl, v, d, _, rfl, (hd.same s1).dp, kit_list _, _, rfl, ?_⟩
      have other : isL d = false → putD (i :: p) d t = d := fun z => by cases d <;> first | rfl | cases z
      cases d with
      | list ds =>
        have hd0 := hd
        cases hd with
        | @lst a xs _ hs ha =>
        have hlen := DpAll.length ha
        have tl := th.len
        refine iteF ⟨_, rfl, a, xs, rfl, s1.seq (hide_le.seq hs), fun L hL => ?_⟩
        have hLH : H L = none := s1.free hL
        have haL : DqAll K (L :: F) H xs ds := DqAll.more ha hLH
        have htL : Dq K (L :: F) H tv t := ht.more hLH
        have LF : L ∉ F := tF.fresh hLH
        cases hp with
        | @tup pa pxs _ hps hpa =>
        cases hpa with
        | @cons p0 pxs' _ _ hp0 hpr =>
        cases hp0
        refine lc_it (walk_enum (K := K) (a := a) (xs := xs)) (fun j H' => ∃ us : List V, Same H H' ∧ H' L = some (.lst us) ∧ DqAll K (L :: F) H' us ((ds.mapIdx fun j x => if j = i then putD p x t else x).take j))
          ⟨[], s1.trans (same_new hL _), upd_same, .nil⟩ (fun _ _ _ z => by obtain ⟨_, z, _⟩ := z; exact z.seq (hide_le.seq hs)) ?_ ?_
        · rintro j y H1 H2 hj ⟨us, sm, hL1, dus⟩ ⟨T, y1, y2, rfl, hT, rfl, e1, e2⟩
          cases e1
          have sT := same_new hT (.tup [.int ((j : Nat) : Int), y2])
          have sm2 := sm.trans sT
          obtain ⟨dj, f1, f2⟩ := DpAll.get haL e2
          have hL2 := sT _ _ hL1
          have ul := DpAll.length dus
          rw [List.length_take, List.length_mapIdx] at ul
          have tk1 : (ds.mapIdx fun j x => if j = i then putD p x t else x).take (j + 1) = (ds.mapIdx fun j x => if j = i then putD p x t else x).take j ++ [if j = i then putD p dj t else dj] := by
            rw [List.take_add_one, List.getElem?_mapIdx, f1]; rfl
          refine ⟨T, _, rfl, SqT.of upd_same, rfl, _, _, rfl, _, _, rfl, rfl, rfl, _, rfl, _, rfl, pa, _, _, _, rfl, rfl, Same.sqT sm2 hps, atI_nat (j := 0) rfl, rfl, _, rfl, ?_⟩
          have keep : ∀ (u : V) (H5 : Hp), Same (upd H1 T (.tup [.int ((j : Nat) : Int), y2])) H5 → Dq K (L :: F) H5 u (if j = i then putD p dj t else dj) →
              ∃ acc, H5 L = some (.lst acc) ∧ acc.length < sizeLine ∧ ∃ us, Same H (upd H5 L (.lst (acc ++ [u]))) ∧ upd H5 L (.lst (acc ++ [u])) L = some (.lst us) ∧
                DqAll K (L :: F) (upd H5 L (.lst (acc ++ [u]))) us ((ds.mapIdx fun j x => if j = i then putD p x t else x).take (j + 1)) := by
            intro u H5 s5 hu
            refine ⟨us, s5 _ _ hL2, (by rw [sizeLine_eq]; omega), us ++ [u], fun b o e => ?_, upd_same, ?_⟩
            · rw [upd_ne (ne_of_none e hLH)]; exact s5 _ _ (sm2 _ _ e)
            · unfold DqAll
              rw [hide_upd_in (List.mem_cons_self ..), tk1]
              exact DpAll.append (DqAll.same dus (sT.trans s5)) (DpAll.one hu)
          refine ite2 (fun eq => ?_) (fun ne => ?_)
          · have eji : j = i := by
              have := of_decide_eq_true eq
              injection this with this
              omega
            refine ⟨_, rfl, _, rfl, _, rfl, pa, _, rfl, Same.sqT sm2 hps, ?_, fun ps hps2 => ?_⟩
            · intro z
              have z1 := z.1
              have e : HT.sIx (V.int (i : Int) :: pxs').length 0 (some 1) = min 1 (V.int (i : Int) :: pxs').length := HT.sIx_nat _ 0 1
              rw [e] at z1
              simp at z1
            rw [cutV_from1]
            have s6 := same_new hps2 (.tup ((V.int (i : Int) :: pxs').drop 1))
            have sm6 := sm2.trans s6
            refine ⟨_, rfl, L :: F, y2, _, tv, dj, t, p, rfl, There.cons (tF.same sm6) (s6 _ _ hL2), Dq.same f2 sm6, .tup (SqT.of upd_same) (dpAll_mono sm6 _ _ hpr), htL.same sm6, by simp only [List.length_cons] at pn; omega, ?_, fun u H5 s5 hu => ?_⟩
            · exact (th.item (List.mem_of_getElem? f1)).mono (by omega) (by omega)
            · exact keep u H5 (s6.trans s5) (by rw [if_pos eji]; exact hu)
          · have eji : j ≠ i := fun z => ne (by rw [z]; exact decide_eq_true rfl)
            exact ⟨_, rfl, keep y2 _ (Same.refl _) (by rw [if_neg eji]; exact Dq.same f2 sm2)⟩
        · rintro H1 ⟨us, sm, hL1, dus⟩
          rw [hlen, List.take_of_length_le (by rw [List.length_mapIdx]; exact Nat.le_refl _)] at dus
          exact q (.ref L) H1 sm (by rw [putD]; exact Dq.lst LF hL1 dus)
      | none => exact iteT ⟨_, rfl, q v _ s1 (by rw [other rfl]; exact hd.same s1)⟩
      | bool _ => exact iteT ⟨_, rfl, q v _ s1 (by rw [other rfl]; exact hd.same s1)⟩
      | int _ => exact iteT ⟨_, rfl, q v _ s1 (by rw [other rfl]; exact hd.same s1)⟩
      | str _ => exact iteT ⟨_, rfl, q v _ s1 (by rw [other rfl]; exact hd.same s1)⟩
      | tuple _ => exact iteT ⟨_, rfl, q v _ s1 (by rw [other rfl]; exact hd.same s1)⟩
      | dict _ => exact iteT ⟨_, rfl, q v _ s1 (by rw [other rfl]; exact hd.same s1)⟩
end
end Tx

namespace Tx
open PySem PySem.Spec PyProof.Rows L2
/-- signs below the last code point -/
def okS (x : Str) : Prop := ∀ c ∈ x.cps.toList, c < 0x110000
theorem okS_app {x y : Str} (h1 : okS x) (h2 : okS y) : okS (x ++ y) := fun c hc => by
  have e : (x ++ y).cps = x.cps ++ y.cps := rfl
  rw [e, Array.toList_append] at hc
  exact (List.mem_append.mp hc).elim (h1 c) (h2 c)
theorem okS_ltr {x : Str} (h : ltr x = true) : okS x := fun c hc => by
  unfold ltr at h
  have := List.all_eq_true.mp h c hc
  simp at this
  omega
theorem fine_str {x : Str} (h : okS x) : fine (.str x) = true := by
  simp only [fine, List.all_eq_true, decide_eq_true_eq]
  exact h
theorem cutS_sub (z : Str) (lo hi : Option Int) : ∀ c ∈ (cutS z lo hi).cps.toList, c ∈ z.cps.toList := fun c hc => by
  unfold cutS at hc
  exact List.mem_of_mem_drop (List.mem_of_mem_take (by simpa using hc))
/-- odd(bag, turn): something or other -/
def spOdd (K : PySem.W.Frag) : Sp := fun vs H Q _ => ∃ (b : Addr) (F : List Addr) (t : Int), vs = [.ref b, .int t] ∧ Bag H b ∧ b ∈ F ∧ There F H ∧
  ∀ (v : V) (d : PyData) (H' : Hp), Stp b H H' → Dq K F H' v d → Thing 2 3000 d → Q v H'
section
variable {P : Program} {w : World} {K : PySem.W.Frag} {mg : Str → Option Value} {base : Heap}
theorem d_odd (h : Has K mg "_law_odd" sOdd) (B : Bi mg) (D_law_take : Dfn P w K mg base CX0 1 "_law_take" ["_law_bag_here", "_law_many"] spTake) (D_law_text : Dfn P w K mg base CX0 2 "_law_text" ["_law_bag_here", "_law_most"] spText) :
    Dfn P w K mg base CX0 3 "_law_odd" ["_law_bag_here", "_law_turn"] (spOdd K) := by
  refine dfn0 (k := 2) h B scOdd (fun _ _ _ _ _ _ us hl => match us, hl with | [_, _], _ => rfl) (fun vs H Q E h => ?_) (fun f cv A out s H vs Q E c h => ?_)
  · obtain ⟨b, F, t, rfl, _⟩ := h
    rfl
  obtain ⟨b, F, t, rfl, hB, bF, tF, q⟩ := h
  refine ⟨_, (pss_cons (ps_set (i := 2) scOdd.nd rfl (Or.inl rfl) (pe_d D_law_take c (by omega) (by rfl) (pa_cons (pv 0) (pa_cons pe_int pa_nil))))
    (pss_cons (ps_if (PW.pt (pw_and (pt_cmpR op_lt (pv 2) pe_int (nomark _)) (pw_and1 (PW.pt (pw_or (pt_cmpR op_lt (pv 2) pe_int (nomark _)) (pw_or1 (pt_cmpR op_eq (pv 1) pe_int (nomark _)))))))) (pss_one (ps_ret (pe_ix ix_list (pe_lst (pa_cons pe_bl (pa_cons pe_bl (pa_cons pe_int (pa_cons (pe_un un_neg pe_int) (pa_cons (pe_op op_add (pe_op op_pow pe_int pe_int) pe_int) (pa_cons (pe_tup pa_nil) (pa_cons (pe_tup (pa_cons pe_str pa_nil)) (pa_cons (pe_lst (pa_cons pe_str (pa_cons (pe_tup (pa_cons pe_str pa_nil)) pa_nil))) (pa_cons (pe_lst (pa_cons pe_non (pa_cons pe_int pa_nil))) pa_nil)))))))))) (pv 2) (fun _ _ => rfl)))) pss_nil)
    (pss_cons (ps_set (i := 3) scOdd.nd rfl (Or.inl rfl) (pe_d D_law_text c (by omega) (by rfl) (pa_cons (pv 0) (pa_cons pe_int pa_nil))))
    (pss_cons (ps_set (i := 4) scOdd.nd rfl (Or.inl rfl) (pe_d D_law_take c (by omega) (by rfl) (pa_cons (pv 0) (pa_cons (pe_op op_add (pe_callB call_len_str (by rfl) c.b.len PySem.boot_len (pa_cons (pv 3) pa_nil)) pe_int) pa_nil))))
    (pss_one (ps_ret (pe_op op_add_str (pe_op op_add_str (pe_slice sl_str (pv 3) po_none (po_some (pv 4))) (pe_ix ix_str pe_str (pe_d D_law_take c (by omega) (by rfl) (pa_cons (pv 0) (pa_cons pe_int pa_nil))) (fun _ _ => rfl))) (pe_slice sl_str (pv 3) (po_some (pv 4)) po_none)))))))), ?_⟩
  refine ⟨_, rfl, b, 14, rfl, hB, by decide, by decide, fun k H0 k0 k1 st0 => ?_⟩
  have tF0 := st0.thereF hB tF
  refine ⟨_, rfl, _, _, rfl, rfl, _, rfl, ite2 (fun lt9 => ⟨_, rfl, _, _, rfl, rfl, _, rfl, ite2 (fun _ => ?disp) (fun _ => ⟨_, rfl, rfl, _, rfl, ite2 (fun _ => ?disp') (fun _ => ?word)⟩)⟩) (fun _ => ?word')⟩
  case disp | disp' =>
    have lt : k < 9 := of_decide_eq_true lt9
    refine ⟨_, rfl, _, _, rfl, rfl, ⟨by decide, by decide, by decide⟩, _, _, rfl, rfl, (by show 0 ≤ sizeLine; decide), fun e1 h1 => ?_⟩
    refine ⟨(by show 1 ≤ sizeLine; decide), fun e2 h2 => ⟨(by show 1 ≤ sizeLine; decide), fun e3 h3 => ⟨(by show 2 ≤ sizeLine; decide), fun e4 h4 => ⟨(by show 2 ≤ sizeLine; decide), fun e5 h5 => ⟨(by show 9 ≤ sizeLine; decide), fun e6 h6 => ?_⟩⟩⟩⟩⟩
    have s1 := same_new h1 (.tup [])
    have s2 := same_new h2 (.tup [.str "a"])
    have s3 := same_new h3 (.tup [.str "ab"])
    have s4 := same_new h4 (.lst [.str "ab", .ref e3])
    have s5 := same_new h5 (.lst [.non, .int 1])
    have t1 := tF0.same s1
    have t2 := t1.same s2
    have t3 := t2.same s3
    have t4 := t3.same s4
    have x1 := ((((Dq.newT (K := K) h1 tF0 (ds := []) .nil).same s2).same s3).same s4).same s5
    have x2 := (((Dq.newT (K := K) h2 t1 (ds := [.str "a"]) (.cons (.str _) .nil)).same s3).same s4).same s5
    have x3 := (Dq.newT (K := K) h3 t2 (ds := [.str "ab"]) (.cons (.str _) .nil))
    have x4 := (Dq.newL (K := K) h4 t3 (ds := [.str "ab", .tuple [.str "ab"]]) (.cons (.str _) (.cons x3 .nil))).same s5
    have x5 := (Dq.newL (K := K) h5 t4 (ds := [.none, .int 1]) (.cons .non (.cons (.int 1) .nil)))
    have s6 := fun o => same_new (o := o) h6
    have st6 : ∀ o, Stp b H (upd (upd (upd (upd (upd (upd H0 e1 (.tup [])) e2 (.tup [.str "a"])) e3 (.tup [.str "ab"])) e4 (.lst [.str "ab", .ref e3])) e5 (.lst [.non, .int 1])) e6 o) := fun o => (((((st0.new h1 _).new h2 _).new h3 _).new h4 _).new h5 _).new h6 o
    obtain ⟨v, i1, i2⟩ := atI_of (xs := [V.bl true, V.bl false, V.int 0, V.int (-1), V.int (10 ^ (29 : Int).toNat + 7), V.ref e1, V.ref e2, V.ref e4, V.ref e5]) k0 (by show k < 9; exact lt)
    refine ⟨_, rfl, e6, _, _, _, rfl, rfl, SqL.of upd_same, i1, ?_⟩
    have h9 : k.toNat = 0 ∨ k.toNat = 1 ∨ k.toNat = 2 ∨ k.toNat = 3 ∨ k.toNat = 4 ∨ k.toNat = 5 ∨ k.toNat = 6 ∨ k.toNat = 7 ∨ k.toNat = 8 := by omega
    rcases h9 with z | z | z | z | z | z | z | z | z <;> rw [z] at i2 <;> cases i2
    · exact q _ (.bool true) _ (st6 _) (.bl _) ⟨rfl, by decide, by decide⟩
    · exact q _ (.bool false) _ (st6 _) (.bl _) ⟨rfl, by decide, by decide⟩
    · exact q _ (.int 0) _ (st6 _) (.int _) ⟨by decide +kernel, by decide, by decide⟩
    · exact q _ (.int (-1)) _ (st6 _) (.int _) ⟨by decide +kernel, by decide, by decide⟩
    · exact q _ (.int (10 ^ (29 : Int).toNat + 7)) _ (st6 _) (.int _) ⟨by decide +kernel, by simp [PyData.depth], by simp [wt]⟩
    · exact q _ _ _ (st6 _) (x1.same (s6 _)) ⟨rfl, by decide, by decide⟩
    · exact q _ _ _ (st6 _) (x2.same (s6 _)) ⟨by decide +kernel, by decide, by decide⟩
    · exact q _ _ _ (st6 _) (x4.same (s6 _)) ⟨by decide +kernel, by decide, by decide⟩
    · exact q _ _ _ (st6 _) (x5.same (s6 _)) ⟨by decide +kernel, by decide, by decide⟩
  all_goals
    refine ⟨_, rfl, b, 4, rfl, st0.bag, by decide, by decide, fun x H1 xl xn st1 => ?_⟩
    refine ⟨_, rfl, _, rfl, x, rfl, (by rw [sizeLine_eq]; omega), _, _, rfl, rfl, b, _, rfl, st1.bag, by omega, by omega, fun u H2 u0 u1 st2 => ?_⟩
    have c1 := cutS_length x none (some u)
    have c2 := cutS_length x (some u) none
    refine ⟨_, rfl, _, rfl, u, rfl, x, rfl, (by rw [sizeLine_eq]; omega), ?_⟩
    refine ⟨_, rfl, b, 11, rfl, st2.bag, by decide, by decide, fun r H3 r0 r1 st3 => ?_⟩
    obtain ⟨ch, e1, e2⟩ := atI_of (xs := (" AZ09_-.{~\n" : Str).cps.toList) r0 (by show r < 11; exact r1)
    refine ⟨_, _, ch, rfl, rfl, (by decide), e1, _, _, rfl, rfl, (by show (cutS x none (some u)).length + 1 ≤ sizeLine; rw [sizeLine_eq]; omega), ?_⟩
    refine ⟨_, rfl, _, rfl, u, rfl, x, rfl, (by rw [sizeLine_eq]; omega), _, _, rfl, rfl, ?_, ?_⟩
    · rw [strLen_append]
      show (cutS x none (some u)).length + 1 + _ ≤ sizeLine
      rw [sizeLine_eq]; omega
    have okc : okS ⟨#[ch]⟩ := fun c hc => by
      have hc' : c = ch := by simpa using hc
      rw [hc']
      have hm := List.mem_of_getElem? e2
      have all : ∀ c ∈ (" AZ09_-.{~\n" : Str).cps.toList, c < 0x110000 := by decide
      exact all ch hm
    have okx := okS_ltr xl
    refine q _ (.str _) H3 (((st0.trans st1).trans st2).trans st3) (.str _) ⟨fine_str (okS_app (okS_app (fun c hc => okx c (cutS_sub _ _ _ c hc)) okc) (fun c hc => okx c (cutS_sub _ _ _ c hc))), by simp [PyData.depth], ?_⟩
    simp only [wt]
    rw [strLen_append, strLen_append]
    show 10 * ((cutS x none (some u)).length + 1 + _) + 2 ≤ 3000
    omega
end
end Tx

namespace Tx
open PySem PySem.Spec PyProof.Rows L2
/-- no place, or one -/
def wl (d : PyData) : PyData := .list (match wrongP d with | none => [] | some p => [plD p])
/-- wrong(thing), the law's -/
def spWrong (K : PySem.W.Frag) (n : Nat) : Sp := fun vs H Q _ => ∃ (v : V) (d : PyData), vs = [v] ∧ Dp K H v d ∧ Thing (n - 1) 1000000 d ∧ 1 ≤ n ∧
  ∀ (u : V) (H' : Hp), Same H H' → Dp K H' u (wl d) → Q u H'
theorem wl_none {d : PyData} (h : wrongP d = none) : wl d = .list [] := by unfold wl; rw [h]
theorem wl_some {d : PyData} {p : List Nat} (h : wrongP d = some p) : wl d = .list [plD p] := by unfold wl; rw [h]
theorem pl_fine (p : List Nat) (h : ∀ n ∈ p, n < 1000000) : fine (plD p) = true := by
  unfold plD
  simp only [fine]
  refine fineAll_iff.mpr fun d hd => ?_
  obtain ⟨n, hn, rfl⟩ := List.mem_map.mp hd
  simp only [fine, decide_eq_true_eq]
  have := h n hn
  rw [Int.natAbs_natCast]
  exact Nat.lt_of_le_of_lt (Nat.log2_le_self n) (by omega) |> fun _ => by
    have h2 : n.log2 < 20 := by
      by_cases z : n = 0
      · rw [z]; decide
      · rw [Nat.log2_lt z]; omega
    omega
theorem wtAll_ints : ∀ p : List Nat, wtAll (p.map fun (n : Nat) => PyData.int (n : Int)) = 2002 * p.length
  | [] => rfl
  | n :: p => by simp only [List.map_cons, wtAll, wt, wtAll_ints p, List.length_cons]; omega
theorem depthAll_ints : ∀ p : List Nat, PyData.depthAll (p.map fun (n : Nat) => PyData.int (n : Int)) = 0
  | [] => rfl
  | n :: p => by simp only [List.map_cons, PyData.depthAll, PyData.depth, depthAll_ints p]; rfl
mutual
theorem wrong_small : ∀ (d : PyData) (p : List Nat), wrongP d = some p → ∀ n ∈ p, 2 * n ≤ wt d
  | .none, p, h => by simp [wrongP] at h
  | .bool _, p, h => by simp only [wrongP] at h; cases h; simp
  | .int _, p, h => by simp only [wrongP] at h; cases h; simp
  | .tuple _, p, h => by simp only [wrongP] at h; cases h; simp
  | .dict _, p, h => by simp only [wrongP] at h; cases h; simp
  | .str x, p, h => by
    simp only [wrongP] at h
    split at h
    · cases h
    · cases h; simp
  | .list xs, p, h => by
    simp only [wrongP] at h
    intro n hn
    have := wrongAll_small xs 0 p h n hn
    simp only [wt]
    omega
theorem wrongAll_small : ∀ (xs : List PyData) (i : Nat) (p : List Nat), wrongAll i xs = some p → ∀ n ∈ p, 2 * n ≤ 2 * i + wtAll xs
  | [], i, p, h => by simp [wrongAll] at h
  | x :: xs, i, p, h => by
    simp only [wrongAll] at h
    simp only [wtAll]
    cases e : wrongP x with
    | some q =>
      rw [e] at h
      cases h
      intro n hn
      cases hn with
      | head => omega
      | tail _ hn => have := wrong_small x q e n hn; omega
    | none =>
      rw [e] at h
      intro n hn
      have := wrongAll_small xs (i + 1) p h n hn
      omega
end
theorem pl_ok {p : List Nat} (h : ∀ n ∈ p, n < 1000000) (l : p.length ≤ 60) : Thing 1 130000 (plD p) :=
  ⟨pl_fine p h, by unfold plD; simp only [PyData.depth, depthAll_ints]; omega, by unfold plD; simp only [wt, wtAll_ints]; omega⟩
theorem wl_ok {n : Nat} {d : PyData} (h : Thing n 1000000 d) (hn : n ≤ 60) : Thing 2 140000 (wl d) := by
  cases e : wrongP d with
  | none => rw [wl_none e]; exact ⟨rfl, by decide, by decide⟩
  | some p =>
    rw [wl_some e]
    have hp := pl_ok (p := p) (fun n hn => by have := wrong_small d p e n hn; have := h.wt; omega) (by have := wrong_len d p e; have := h.deep; omega)
    have f := hp.fine
    have g := hp.deep
    have w := hp.wt
    exact ⟨by simp only [fine, fineAll, f, Bool.and_self], by simp only [PyData.depth, PyData.depthAll]; omega, by simp only [wt, wtAll]; omega⟩
theorem eqv_wl (d : PyData) : PyData.eqv (wl d) (.list []) = (wrongP d).isNone := by
  cases e : wrongP d with
  | none => rw [wl_none e]; simp [PyData.eqv, PyData.eqvAll]
  | some p => rw [wl_some e]; simp [PyData.eqv, PyData.eqvAll]
theorem sgn_flat (z : Str) : (sgn z).all flatV = true := by
  rw [sgn, List.all_map]
  exact List.all_eq_true.mpr fun _ _ => rfl
theorem in_abc (c : Nat) : inV (.str ⟨#[c]⟩) (sgn "abcdefghijklmnopqrstuvwxyz") = decide (97 ≤ c ∧ c ≤ 122) := by
  rw [← abc_mem]
  unfold inV sgn
  rw [List.any_map]
  by_cases h : c ∈ ("abcdefghijklmnopqrstuvwxyz" : Str).cps.toList
  · rw [decide_eq_true h]
    exact List.any_eq_true.mpr ⟨c, h, by simp [eqV]⟩
  · rw [decide_eq_false h]
    refine List.any_eq_false.mpr fun x hx z => h ?_
    have e : x = c := by simpa [eqV] using z
    rw [← e]
    exact hx
section
variable {P : Program} {w : World} {K : PySem.W.Frag} {mg : Str → Option Value} {base : Heap}
theorem d_wrong (h : Has K mg "_law_wrong" sWrong) (B : Bi mg) : ∀ n, n ≤ 61 → Dfn P w K mg base CX0 n "_law_wrong" ["_law_thing"] (spWrong K n)
  | 0, _ => dfn_none h (fun _ _ _ _ _ _ us hl => match us, hl with | [_], _ => rfl) fun vs H Q E z => by
    obtain ⟨_, _, _, _, _, z, _⟩ := z
    omega
  | n + 1, hn => by
    have D_law_wrong := d_wrong h B n (by omega)
    refine dfn0 (k := n) h B scWrong (fun _ _ _ _ _ _ us hl => match us, hl with | [_], _ => rfl) (fun vs H Q E h => ?_) (fun f cv A out s H vs Q E c h => ?_)
    · obtain ⟨v, d, rfl, _⟩ := h
      rfl
    obtain ⟨v, d, rfl, hd, th, _, q⟩ := h
    refine ⟨_, (pss_cons (ps_if (pt_val (pe_callB (call_isD (T := "list")) (by rfl) c.b.isinstance (by decide +kernel) (pa_cons (pv 0) (pa_cons (pe_bltn (v := .ty "list") (by rfl) c.b.list (by decide +kernel) rfl) pa_nil)))) (pss_cons (ps_for PassesOwn.never rfl (pi_enum (by rfl) c.b.enumerate (pa_cons (pv 0) pa_nil)) (pg_tup rfl (pgs_cons (pg_name (i := 2) scWrong.nd rfl (Or.inl rfl)) (pgs_cons (pg_name (i := 3) scWrong.nd rfl (Or.inl rfl)) pgs_nil)))
    (pss_cons (ps_set (i := 4) scWrong.nd rfl (Or.inl rfl) (pe_d D_law_wrong c (by omega) (by rfl) (pa_cons (pv 3) pa_nil)))
    (pss_one (ps_if (pt_cmpR (op_neD c.r.units) (pv 4) (pe_lst pa_nil) (nomark _)) (pss_one (ps_ret (pe_lst (pa_cons (pe_op op_catT (pe_tup (pa_cons (pv 2) pa_nil)) (pe_ix ix_list (pv 4) pe_int (fun _ _ => rfl))) pa_nil)))) pss_nil))))
    (pss_one (ps_ret (pe_lst pa_nil)))) pss_nil)
    (pss_cons (ps_if (pt_cmpR op_isN (pv 0) pe_non (nomark _)) (pss_one (ps_ret (pe_lst pa_nil))) pss_nil)
    (pss_cons (ps_set (i := 1) scWrong.nd rfl (Or.inl rfl) (pe_and (pe_callB (call_isD (T := "str")) (by rfl) c.b.isinstance (by decide +kernel) (pa_cons (pv 0) (pa_cons (pe_bltn (v := .ty "str") (by rfl) c.b.str (by decide +kernel) rfl) pa_nil))) (pe_one (pe_callB (cr_all rfl) (by rfl) c.b.all (by decide +kernel) (pa_cons (pe_lc (own := [("_law_sign", 5)]) (g := (gName 5)) (tt := tYes) rfl scWrong.nd (pi_str (pv 0)) (blkOk_by (own := [("_law_sign", 5)]) (N := ["_law_thing", "_law_is_word", "_law_at", "_law_one", "_law_found", "_law_sign"]) (sc := defScope sWrong) (by decide +kernel)) (fun _ _ _ _ _ => (pg_name (i := 5) scWrong.nd rfl (Or.inl rfl))) (fun _ _ _ _ _ => pts_nil) (fun _ _ _ _ _ => (pe_cmpR (op_in_seqK (K := K) rfl) (pv 5) (pe_callTy (call_listS rfl) (by rfl) c.b.list (by decide +kernel) (pa_cons pe_str pa_nil)) (by rfl)))) pa_nil)))))
    (pss_one (ps_ret (pe_ifExp (pt_val (pv 1)) (pe_lst pa_nil) (pe_lst (pa_cons (pe_tup pa_nil) pa_nil)))))))), ?_⟩
    refine ⟨_, rfl, v, d, _, rfl, hd, kit_list _, _, rfl, ?_⟩
    cases d with
    | list ds =>
      cases hd with
      | @lst a xs _ hs ha =>
      refine iteT ⟨_, rfl, a, xs, rfl, hs, ?_⟩
      have hlen := DpAll.length ha
      refine for_it (walk_enum (K := K) (a := a) (xs := xs)) (fun i σ H' => ∃ (u1 u2 u3 : Option V), σ = [some (.ref a), none, u1, u2, u3, none] ∧ Same H H' ∧ wrongAll 0 ds = wrongAll i (ds.drop i))
        ⟨none, none, none, rfl, Same.refl _, rfl⟩ (fun _ _ _ _ z => by obtain ⟨_, _, _, _, sm, _⟩ := z; exact sm.seq hs) ?_ ?_
      · rintro i y σ H1 H2 hi ⟨u1, u2, u3, rfl, sm, ew⟩ ⟨T, y1, y2, rfl, hT, rfl, e1, e2⟩
        cases e1
        obtain ⟨d, f1, f2⟩ := DpAll.get ha e2
        have hm := List.mem_of_getElem? f1
        have sm2 := sm.trans (same_new hT (.tup [.int ((i : Nat) : Int), y2]))
        refine ⟨T, _, rfl, SqT.of upd_same, rfl, _, _, rfl, _, _, rfl, rfl, ?_⟩
        have thd := th.item hm
        have n1 : 1 ≤ n := by
          have := th.deep
          simp only [PyData.depth] at this
          omega
        refine ⟨_, rfl, y2, d, rfl, dp_mono sm2 d y2 f2, thd, n1, fun u H3 sm3 hu => ?_⟩
        refine ⟨_, rfl, (by show 0 ≤ sizeLine; decide), fun e0 he0 => ⟨wl d, .list [], dp_mono (same_new he0 _) _ _ hu, .lst (SqL.of upd_same) .nil, ?_, rfl, _, rfl, ?_⟩⟩
        · exact ((wl_ok thd (by omega)).ok (by decide) (by decide)).shaped
        have s4 := sm2.trans (sm3.trans (same_new he0 (.lst [])))
        rw [eqv_wl]
        cases ep : wrongP d with
        | none => exact iteF ⟨_, _, _, rfl, s4, wrongAll_drop f1 ep ew⟩
        | some p =>
          have wr : wrongP (.list ds) = some (i :: p) := by rw [wrongP]; exact wrongAll_at f1 ep ew
          rw [wl_some ep] at hu
          cases hu with
          | @lst ua us _ hus hua =>
          cases hua with
          | @cons x0 xr _ _ hx0 hxr =>
          cases hxr
          have hx1 := dp_mono (same_new he0 (.lst [])) _ _ hx0
          cases hx1 with
          | @tup ta txs _ hts hta =>
          have fin : ∀ (r : Addr) (zs : List V) (H5 : Hp), Same (upd H3 e0 (.lst [])) H5 → H5 r = some (.tup zs) → DpAll K H5 zs ((i :: p).map fun (n : Nat) => PyData.int (n : Int)) →
              (([.ref r] : List V).length ≤ sizeLine ∧ ∀ l, H5 l = none → Q (.ref l) (upd H5 l (.lst [.ref r]))) := by
            intro r zs H5 s5 hr dz
            refine ⟨(by show 1 ≤ sizeLine; decide), fun l hl => q _ _ ((s4.trans s5).trans (same_new hl _)) ?_⟩
            rw [wl_some wr]
            exact .lst (SqL.of upd_same) (.cons (.tup (SqT.of (same_new hl _ _ _ hr)) (dpAll_mono (same_new hl _) _ _ dz)) .nil)
          refine iteT ⟨_, rfl, (by show 1 ≤ sizeLine; decide), fun q1 hq1 => ⟨_, rfl, ua, _, _, _, rfl, rfl, ((same_new he0 _).trans (same_new hq1 _)).seq hus, atI_nat (j := 0) rfl, q1, ta, _, txs, rfl, rfl, SqT.of upd_same, Same.sqT (same_new hq1 _) hts, (by intro z; cases z), ?_, fun z => ?_, fun z q2 hq2 => ?_⟩⟩
          · have l1 := DpAll.length hta
            rw [List.length_map] at l1
            have l2 := wrong_len d p ep
            have l3 := thd.deep
            show 1 + txs.length ≤ sizeLine
            rw [sizeLine_eq]; omega
          · have lp : p = [] := by
              have l1 := DpAll.length hta
              rw [z, List.length_map] at l1
              exact List.eq_nil_of_length_eq_zero l1.symm
            refine fin q1 _ _ (same_new hq1 _) upd_same ?_
            rw [lp]
            exact .cons (.int _) .nil
          · have s5 := (same_new hq1 (.tup [.int ((i : Nat) : Int)])).trans (same_new hq2 (.tup ([.int ((i : Nat) : Int)] ++ txs)))
            exact fin q2 _ _ s5 upd_same (.cons (.int _) (dpAll_mono s5 _ _ hta))
      · rintro σ H1 ⟨u1, u2, u3, rfl, sm, ew⟩
        have wr : wrongP (.list ds) = none := by rw [wrongP, ew, hlen, List.drop_length]; rfl
        refine ⟨(by show 0 ≤ sizeLine; decide), fun r hr => q _ _ (sm.trans (same_new hr _)) ?_⟩
        rw [wl_none wr]
        exact .lst (SqL.of upd_same) .nil
    | none =>
      cases hd
      refine iteF ⟨_, rfl, rfl, _, rfl, iteT ⟨(by show 0 ≤ sizeLine; decide), fun r hr => q _ _ (same_new hr _) (.lst (SqL.of upd_same) .nil)⟩⟩
    | dict _ => cases hd
    | str x =>
      cases hd
      have hw := th.wt
      simp only [wt] at hw
      refine iteF ⟨_, rfl, rfl, _, rfl, iteF ⟨_, rfl, _, .str x, _, rfl, .str x, kit_str _, _, rfl, iteT ⟨_, rfl, x, rfl, fun L hL => ?_⟩⟩⟩
      refine lc_it (walk_str (z := x)) (fun i H' => Same H H' ∧ H' L = some (.lst ((x.cps.toList.take i).map fun c => V.bl (decide (97 ≤ c ∧ c ≤ 122)))))
        ⟨same_new hL _, upd_same⟩ (fun _ _ _ _ => trivial) ?_ ?_
      · rintro i y H1 H2 hi ⟨sm, hL1⟩ ⟨rfl, ch, hc, rfl⟩
        refine ⟨rfl, _, rfl, _, rfl, (by decide), fun l hl => ⟨l, _, rfl, .inl (SqL.of upd_same), rfl, sgn_flat _, _, same_new hl _ _ _ hL1, ?_, (fun b o e => ?_), ?_⟩⟩
        · rw [List.length_map, List.length_take, Array.length_toList, sizeLine_eq]
          have : x.length = x.cps.size := rfl
          omega
        · rw [upd_ne (ne_of_none e hL)]
          exact same_new hl _ _ _ (sm _ _ e)
        · rw [upd_same, List.take_add_one, Array.getElem?_toList, hc, List.map_append]
          show some (HO.lst (_ ++ [V.bl (inV (V.str ⟨#[ch]⟩) (sgn "abcdefghijklmnopqrstuvwxyz"))])) = _
          rw [in_abc]
          rfl
      · rintro H1 ⟨sm, hL1⟩
        rw [← Array.length_toList, List.take_length] at hL1
        refine ⟨L, x.cps.toList.map fun c => decide (97 ≤ c ∧ c ≤ 122), rfl, SqL.of (by rw [hL1, List.map_map]; rfl), ?_⟩
        rw [List.all_map]
        show ∃ v, _ ∧ _
        have ea : (x.cps.toList.all fun c => decide (97 ≤ c ∧ c ≤ 122)) = ltr x := rfl
        refine ⟨_, rfl, _, rfl, ?_⟩
        by_cases hx : ltr x = true
        · have wr : wrongP (.str x) = none := by rw [wrongP, if_pos hx]
          refine ite2 (fun _ => ⟨(by show 0 ≤ sizeLine; decide), fun r hr => q _ _ (sm.trans (same_new hr _)) ?_⟩) (fun z => absurd hx z)
          rw [wl_none wr]
          exact .lst (SqL.of upd_same) .nil
        · have wr : wrongP (.str x) = some [] := by rw [wrongP, if_neg hx]
          refine ite2 (fun z => absurd z hx) (fun _ => ⟨(by show 0 ≤ sizeLine; decide), fun t ht => ⟨(by show 1 ≤ sizeLine; decide), fun r hr => q _ _ ((sm.trans (same_new ht _)).trans (same_new hr _)) ?_⟩⟩)
          rw [wl_some wr]
          exact .lst (SqL.of upd_same) (.cons (.tup (SqT.of (same_new hr _ _ _ upd_same)) .nil) .nil)
    | bool y =>
      cases hd
      refine iteF ⟨_, rfl, rfl, _, rfl, iteF ⟨_, rfl, _, .bool y, _, rfl, .bl y, kit_str _, _, rfl, iteF ⟨_, rfl, _, rfl, iteF ⟨(by show 0 ≤ sizeLine; decide), fun t ht => ⟨(by show 1 ≤ sizeLine; decide), fun r hr => q _ _ ((same_new ht _).trans (same_new hr _)) ?_⟩⟩⟩⟩⟩
      exact .lst (SqL.of upd_same) (.cons (.tup (SqT.of (same_new hr _ _ _ upd_same)) .nil) .nil)
    | int y =>
      cases hd
      refine iteF ⟨_, rfl, rfl, _, rfl, iteF ⟨_, rfl, _, .int y, _, rfl, .int y, kit_str _, _, rfl, iteF ⟨_, rfl, _, rfl, iteF ⟨(by show 0 ≤ sizeLine; decide), fun t ht => ⟨(by show 1 ≤ sizeLine; decide), fun r hr => q _ _ ((same_new ht _).trans (same_new hr _)) ?_⟩⟩⟩⟩⟩
      exact .lst (SqL.of upd_same) (.cons (.tup (SqT.of (same_new hr _ _ _ upd_same)) .nil) .nil)
    | tuple ds =>
      cases hd with
      | tup hs ha =>
      refine iteF ⟨_, rfl, rfl, _, rfl, iteF ⟨_, rfl, _, .tuple ds, _, rfl, .tup hs ha, kit_str _, _, rfl, iteF ⟨_, rfl, _, rfl, iteF ⟨(by show 0 ≤ sizeLine; decide), fun t ht => ⟨(by show 1 ≤ sizeLine; decide), fun r hr => q _ _ ((same_new ht _).trans (same_new hr _)) ?_⟩⟩⟩⟩⟩
      exact .lst (SqL.of upd_same) (.cons (.tup (SqT.of (same_new hr _ _ _ upd_same)) .nil) .nil)
end
end Tx

namespace Tx
open PySem PySem.Spec PyProof.Rows L2
abbrev sTold : Stmt := top 22
theorem scTold : FnScope ["_law_thing", "e", "_law_answer", "_law_is_right"] ["_law_thing"] (defScope sTold) := ⟨rfl, rfl, rfl, by decide +kernel, rfl, by decide +kernel, by decide +kernel⟩
abbrev sLaw : Stmt := top 23
theorem scLaw : FnScope ["_law_script", "_law_at", "_law_bag_here", "_law_thing", "_law_turn", "_law_spots_here", "_law_due", "_law_before"] ["_law_script"] (defScope sLaw) := ⟨rfl, rfl, rfl, by decide +kernel, rfl, by decide +kernel, by decide +kernel⟩
/-- told(thing) tells what wrong(thing) does -/
def spTold (K : PySem.W.Frag) : Sp := fun vs H Q _ => ∃ (v : V) (d : PyData), vs = [v] ∧ Dp K H v d ∧ Thing 29 1000000 d ∧ ∀ (u : V) (H' : Hp), Same H H' → Dp K H' u (wl d) → Q u H'
def spLaw (K : PySem.W.Frag) : Sp := fun vs H Q _ => ∃ (a : Addr) (ns : List Int), vs = [.ref a] ∧ SqL K H a (ns.map V.int) ∧ ns.length ≤ 63 ∧ ∀ H', Q (.bl true) H'
section
variable {P : Program} {w : World} {K : PySem.W.Frag} {mg : Str → Option Value} {base : Heap} {CB CT CN CP : Addr}
theorem d_told (h : Has K mg "_law_told" sTold) (B : Bi mg) (D_check_value : Dfn P w K mg base (L2.CX P w) 35 "check_value" ["thing"] (spCheckValue K CB)) (X_BadValue : Err1 P w K mg base "BadValue" "place" CB)
    (X_TextorlistError : Cls0 mg "TextorlistError" CT) (X_NoPlace : Cls0 mg "NoPlace" CN) (X_BadProgram : Cls0 mg "BadProgram" CP)
    (k1 : PySem.W.kitOne K (.ref CB) (.ref CT) = some true) (k2 : PySem.W.kitOne K (.ref CB) (.type "ValueError") = some true) (k3 : PySem.W.kitAny K (.ref CB) [.ref CN, .ref CP] = some false) :
    Dfn P w K mg base CX0 36 "_law_told" ["_law_thing"] (spTold K) := by
  refine dfn0 (k := 35) h B scTold (fun _ _ _ _ _ _ us hl => match us, hl with | [_], _ => rfl) (fun vs H Q E h => ?_) (fun f cv A out s H vs Q E c h => ?_)
  · obtain ⟨v, d, rfl, _⟩ := h
    rfl
  obtain ⟨v, d, rfl, hd, th, q⟩ := h
  refine ⟨_, (pss_cons (ps_try_as (i := 1) (Wout := fun _ _ _ _ => False) rfl rfl scTold.nd rfl rfl ⟨rfl, by decide, Or.inl X_BadValue.gC⟩ takes0
    (fun W pn xe tk _ => (pss_one (ps_set (i := 2) scTold.nd rfl (Or.inl rfl) (pe_dS D_check_value c (by omega) (by rfl) (fun σ => passAt tk σ) (pa_cons (pv 0) pa_nil)))))
    (fun a oe cls d pn hz hf => (pss_cons (ps_set (i := 3) scTold.nd rfl (Or.inl rfl) (pe_and (pe_callB (call_isX X_BadValue.exc hz hf) (by rfl) c.b.isinstance (by decide +kernel) (pa_cons (pv 1) (pa_cons (pe_gcl X_TextorlistError.gC (by rfl)) pa_nil))) (pe_one (pe_callB (call_isX X_BadValue.exc hz hf) (by rfl) c.b.isinstance (by decide +kernel) (pa_cons (pv 1) (pa_cons (pe_bltn (v := .ty "ValueError") (by rfl) c.b.ValueError (by decide +kernel) rfl) pa_nil))))))
    (pss_one (ps_ret (pe_ifExp (PW.pt (pw_and (pt_val (pv 3)) (pw_and1 (pt_not (pt_val (pe_callB (call_isXT X_BadValue.exc hz hf) (by rfl) c.b.isinstance (by decide +kernel) (pa_cons (pv 1) (pa_cons (pe_tup (pa_cons (pe_gcl X_NoPlace.gC (by rfl)) (pa_cons (pe_gcl X_BadProgram.gC (by rfl)) pa_nil))) pa_nil)))))))) (pe_lst (pa_cons (pe_xf X_BadValue.xf X_BadValue.noF hz hf (pv 1)) pa_nil)) (pe_lst (pa_cons pe_str pa_nil))))))))
    (pss_one (ps_ret (pe_ifExp (pt_cmpR op_isN (pv 2) pe_non (nomark _)) (pe_lst pa_nil) (pe_lst (pa_cons pe_str pa_nil)))))), ?_⟩
  refine ⟨_, rfl, v, d, rfl, hd, th.mono (by decide) (by decide), fun e H1 sm => ?_, fun p e dd u H1 sm hdd hu => ?_⟩
  · refine ⟨_, rfl, rfl, _, rfl, iteT ⟨(by show 0 ≤ sizeLine; decide), fun r hr => q _ _ (sm.trans (same_new hr _)) ?_⟩⟩
    rw [wl_none e]
    exact .lst (SqL.of upd_same) .nil
  · refine ⟨true, X_BadValue.self, fun _ a0 ha0 => ?_, fun z => Bool.noConfusion z⟩
    have xd : ∀ d2, some dd = some d2 → ∃ fs, H1 d2 = some (.xd fs) := fun d2 z => by cases z; exact ⟨_, hdd⟩
    refine ⟨_, rfl, _, _, _, rfl, rfl, .own CT, k1, xd, _, rfl, iteT ⟨_, rfl, _, _, _, rfl, rfl, .ty _, k2, xd, ?_⟩⟩
    refine ⟨_, rfl, _, rfl, iteT ⟨_, rfl, (by show 2 ≤ sizeLine; decide), fun tp htp => ⟨tp, _, [.ref CN, .ref CP], _, rfl, rfl, upd_same, .cons (.own _) (.cons (.own _) .nil), k3, ?_, _, rfl, iteT ?_⟩⟩⟩
    · intro d2 z
      obtain ⟨fs, e2⟩ := xd d2 z
      exact ⟨fs, same_new htp _ _ _ e2⟩
    refine ⟨_, rfl, rfl, rfl, dd, _, u, rfl, same_new htp _ _ _ hdd, (by simp [List.lookup]), (by show 1 ≤ sizeLine; decide), fun r hr => q _ _ (sm.trans ((same_new htp _).trans (same_new hr _))) ?_⟩
    rw [wl_some e]
    exact .lst (SqL.of upd_same) (.cons (dp_mono ((same_new htp _).trans (same_new hr _)) _ _ hu) .nil)
end
end Tx

namespace Tx
open PySem PySem.Spec PyProof.Rows L2
/-! ## What an exchange does to depth and length -/
theorem mapIdx_none {α : Type} : ∀ (xs : List α) (f : Nat → α → α), (∀ j x, f j x = x) → xs.mapIdx f = xs
  | [], _, _ => rfl
  | x :: xs, f, h => by rw [List.mapIdx_cons, h, mapIdx_none xs _ fun j x => h (j + 1) x]
theorem wt_at (W : Nat) (g : PyData → PyData) : ∀ (xs : List PyData) (i : Nat), (∀ x ∈ xs, wt (g x) ≤ wt x + W) → wtAll (xs.mapIdx fun j x => if j = i then g x else x) ≤ wtAll xs + W
  | [], _, _ => by simp [wtAll]
  | x :: xs, 0, h => by
    rw [List.mapIdx_cons, mapIdx_none xs _ fun j x => if_neg (Nat.succ_ne_zero j)]
    have := h x List.mem_cons_self
    simp only [wtAll, if_true]
    omega
  | x :: xs, i + 1, h => by
    rw [List.mapIdx_cons]
    have ih := wt_at W g xs i fun y hy => h y (List.mem_cons_of_mem _ hy)
    have e : (fun j x => if j + 1 = i + 1 then g x else x) = (fun j x => if j = i then g x else x) := by
      funext j x
      by_cases z : j = i
      · rw [if_pos z, if_pos (by omega)]
      · rw [if_neg z, if_neg (by omega)]
    rw [e]
    simp only [wtAll, if_neg (show ¬ 0 = i + 1 by omega)]
    omega
theorem mem_at {g : PyData → PyData} {xs : List PyData} {i : Nat} {d : PyData} (h : d ∈ xs.mapIdx fun j x => if j = i then g x else x) : d ∈ xs ∨ ∃ x ∈ xs, d = g x := by
  obtain ⟨j, hj, e⟩ := List.mem_mapIdx.mp h
  by_cases z : j = i
  · rw [if_pos z] at e
    exact .inr ⟨_, List.getElem_mem _, e.symm⟩
  · rw [if_neg z] at e
    exact .inl (by rw [← e]; exact List.getElem_mem _)
theorem put_thing : ∀ (p : List Nat) (d t : PyData), fine d = true → fine t = true → fine (putD p d t) = true ∧ (putD p d t).depth ≤ max d.depth (p.length + t.depth) ∧ wt (putD p d t) ≤ wt d + wt t
  | [], d, t, hd, ht => by simp only [putD]; exact ⟨ht, by simp; omega, by omega⟩
  | i :: p, .list xs, t, hd, ht => by
    simp only [fine] at hd
    simp only [putD]
    have ih : ∀ x ∈ xs, fine (putD p x t) = true ∧ (putD p x t).depth ≤ max x.depth (p.length + t.depth) ∧ wt (putD p x t) ≤ wt x + wt t := fun x hx => put_thing p x t (fineAll_iff.mp hd x hx) ht
    refine ⟨?_, ?_, ?_⟩
    · simp only [fine]
      refine fineAll_iff.mpr fun d hm => ?_
      rcases mem_at hm with z | ⟨x, hx, rfl⟩
      · exact fineAll_iff.mp hd d z
      · exact (ih x hx).1
    · simp only [PyData.depth, List.length_cons]
      have : PyData.depthAll (xs.mapIdx fun j x => if j = i then putD p x t else x) ≤ max (PyData.depthAll xs) (p.length + t.depth) := by
        refine depthAll_le fun d hm => ?_
        rcases mem_at hm with z | ⟨x, hx, rfl⟩
        · have := depth_mem z; omega
        · have h1 := (ih x hx).2.1
          have h2 := depth_mem hx
          omega
      omega
    · simp only [wt]
      have := wt_at (wt t) (fun x => putD p x t) xs i fun x hx => (ih x hx).2.2
      omega
  | _ :: _, .none, t, hd, _ => ⟨hd, by simp only [putD]; omega, by simp only [putD]; omega⟩
  | _ :: _, .bool _, t, hd, _ => ⟨hd, by simp only [putD]; omega, by simp only [putD]; omega⟩
  | _ :: _, .int _, t, hd, _ => ⟨hd, by simp only [putD]; omega, by simp only [putD]; omega⟩
  | _ :: _, .str _, t, hd, _ => ⟨hd, by simp only [putD]; omega, by simp only [putD]; omega⟩
  | _ :: _, .tuple _, t, hd, _ => ⟨hd, by simp only [putD]; omega, by simp only [putD]; omega⟩
  | _ :: _, .dict _, t, hd, _ => ⟨hd, by simp only [putD]; omega, by simp only [putD]; omega⟩
theorem bool_ok (b : Bool) : Ok (.bool b) := ⟨rfl, by simp [PyData.depth], by simp [wt]⟩
section
variable {P : Program} {w : World} {K : PySem.W.Frag} {mg : Str → Option Value} {base : Heap}
theorem d_law (h : Has K mg "law" sLaw) (B : Bi mg) (D_law_take : Dfn P w K mg base CX0 1 "_law_take" ["_law_bag_here", "_law_many"] spTake) (D_law_bag : Dfn P w K mg base CX0 1 "_law_bag" ["_law_script", "_law_at"] (spBag K))
    (D_law_great : Dfn P w K mg base CX0 27 "_law_great" ["_law_bag_here"] (spGreat K)) (D_law_wrong : Dfn P w K mg base CX0 31 "_law_wrong" ["_law_thing"] (spWrong K 31)) (D_law_told : Dfn P w K mg base CX0 36 "_law_told" ["_law_thing"] (spTold K))
    (D_is_value : Dfn P w K mg base CX0 32 "is_value" ["thing"] (spIsValue K)) (D_law_spots : Dfn P w K mg base CX0 31 "_law_spots" ["_law_value_here"] (spSpots K 31)) (D_law_put : Dfn P w K mg base CX0 31 "_law_put" ["_law_value_here", "_law_place", "_law_thing"] (spPut K 31))
    (D_law_odd : Dfn P w K mg base CX0 3 "_law_odd" ["_law_bag_here", "_law_turn"] (spOdd K)) : Dfn P w K mg base CX0 37 "law" ["_law_script"] (spLaw K) := by
  refine dfn0 (k := 36) h B scLaw (fun _ _ _ _ _ _ us hl => match us, hl with | [_], _ => rfl) (fun vs H Q E h => ?_) (fun f cv A out s H vs Q E c h => ?_)
  · obtain ⟨a, ns, rfl, _⟩ := h
    rfl
  obtain ⟨a, ns, rfl, hS, h63, q⟩ := h
  refine ⟨_, (pss_cons (ps_for PassesOwn.never rfl (pi_range1 (by rfl) c.b.range (pa_cons (pe_callB (call_max2 rfl) (by rfl) c.b.max (by decide +kernel) (pa_cons pe_int (pa_cons (pe_callB (call_min2 rfl) (by rfl) c.b.min (by decide +kernel) (pa_cons pe_int (pa_cons (pe_callB call_len_seq (by rfl) c.b.len PySem.boot_len (pa_cons (pv 0) pa_nil)) pa_nil))) pa_nil))) pa_nil)) (pg_name (i := 1) scLaw.nd rfl (Or.inl rfl))
    (pss_cons (ps_set (i := 2) scLaw.nd rfl (Or.inl rfl) (pe_d D_law_bag c (by omega) (by rfl) (pa_cons (pv 0) (pa_cons (pv 1) pa_nil))))
    (pss_cons (ps_set (i := 3) scLaw.nd rfl (Or.inl rfl) (pe_d D_law_great c (by omega) (by rfl) (pa_cons (pv 2) pa_nil)))
    (pss_one (ps_for PassesOwn.never rfl (pi_range1 (by rfl) c.b.range (pa_cons pe_int pa_nil)) (pg_name (i := 4) scLaw.nd rfl (Or.inl rfl))
    (pss_cons (ps_par (i := 6) (j := 7) rfl scLaw.nd rfl rfl (by decide) rfl rfl (pa_cons (pe_d D_law_wrong c (by omega) (by rfl) (pa_cons (pv 3) pa_nil)) (pa_cons (pe_callB (call_repr c.g c.r.units) (by rfl) c.b.repr (by decide +kernel) (pa_cons (pv 3) pa_nil)) pa_nil)) (by rfl))
    (pss_cons (ps_if (PW.pt (pw_or (pt_cmpR op_ne (pe_callB (call_repr c.g c.r.units) (by rfl) c.b.repr (by decide +kernel) (pa_cons (pe_d D_law_told c (by omega) (by rfl) (pa_cons (pv 3) pa_nil)) pa_nil)) (pe_callB (call_repr c.g c.r.units) (by rfl) c.b.repr (by decide +kernel) (pa_cons (pv 6) pa_nil)) (nomark _)) (pw_or1 (pt_cmpR op_ne (pe_callB (call_repr c.g c.r.units) (by rfl) c.b.repr (by decide +kernel) (pa_cons (pe_d D_is_value c (by omega) (by rfl) (pa_cons (pv 3) pa_nil)) pa_nil)) (pe_callB (call_repr c.g c.r.units) (by rfl) c.b.repr (by decide +kernel) (pa_cons (pe_cmpR (op_eqD c.r.units) (pv 6) (pe_lst pa_nil) (nomark _)) pa_nil)) (nomark _))))) (pss_one (ps_ret pe_bl)) pss_nil)
    (pss_cons (ps_if (pt_cmpR op_ne (pe_callB (call_repr c.g c.r.units) (by rfl) c.b.repr (by decide +kernel) (pa_cons (pv 3) pa_nil)) (pv 7) (nomark _)) (pss_one (ps_ret pe_bl)) pss_nil)
    (pss_cons (ps_set (i := 5) scLaw.nd rfl (Or.inl rfl) (pe_d D_law_spots c (by omega) (by rfl) (pa_cons (pv 3) pa_nil)))
    (pss_one (ps_set (i := 3) scLaw.nd rfl (Or.inl rfl) (pe_d D_law_put c (by omega) (by rfl) (pa_cons (pv 3) (pa_cons (pe_ix ix_list (pv 5) (pe_d D_law_take c (by omega) (by rfl) (pa_cons (pv 2) (pa_cons (pe_callB call_len_seq (by rfl) c.b.len PySem.boot_len (pa_cons (pv 5) pa_nil)) pa_nil))) (fun _ _ => rfl)) (pa_cons (pe_d D_law_odd c (by omega) (by rfl) (pa_cons (pv 2) (pa_cons (pv 4) pa_nil))) pa_nil)))))))))))))))
    (pss_one (ps_ret pe_bl))), ?_⟩
  have hl : (ns.map V.int).length = ns.length := List.length_map _
  refine ⟨_, rfl, a, _, rfl, .inl hS, _, _, rfl, _, _, rfl, _, rfl, ?_, ?_, ?_⟩
  · split <;> (try split) <;> omega
  · split <;> (try split) <;> omega
  refine for_range (lo := 0) (fun i σ H' => ∃ u1 u2 u3 u4 u5 u6 u7 : Option V, σ = [some (.ref a), u1, u2, u3, u4, u5, u6, u7] ∧ Same H H') ⟨none, none, none, none, none, none, none, rfl, Same.refl _⟩ ?_ ?_
  · rintro i σ H0 hi ⟨u1, u2, u3, u4, u5, u6, u7, rfl, s0⟩
    have i9 : i < 9 := by
      rw [hl] at hi
      split at hi <;> (try split at hi) <;> omega
    refine ⟨_, rfl, _, rfl, a, ns, _, rfl, s0.seq hS, by omega, by omega, fun b H1 s1 hb0 hB => ?_⟩
    refine ⟨_, rfl, b, hide [b] H1, rfl, hB, hide_in (by simp), hide_le, fun x d J2 H2 g2 hd vd => ?_⟩
    have hb : H b = none := s0.free hb0
    have keep : ∀ {H' H'' : Hp}, Same H H' → Stp b H' H'' → Same H H'' := fun h1 h2 a o e => h2.keep a o (ne_of_none e hb) (h1 a o e)
    have s2 : Same H H2 := keep (s0.trans s1) g2.st
    refine ⟨4, rfl, by decide, by decide, ?_⟩
    refine for_range (lo := 0) (n := 4) (fun i σ H' => ∃ (x : V) (d : PyData) (u1 u4 u5 u6 u7 : Option V), σ = [some (.ref a), u1, some (.ref b), some x, u4, u5, u6, u7] ∧ Same H H' ∧ Bag H' b ∧ Dq K [b] H' x d ∧ Thing (12 + 2 * i) (5000 + 3000 * i) d)
      ⟨x, d, _, _, _, _, _, rfl, s2, g2.st.bag, g2.dq hB.there hd, vd.thing.mono (by decide) (by decide)⟩ ?_ ?_
    · rintro t σ H3 ht ⟨x, d, u1, u4, u5, u6, u7, rfl, s3, hB3, hx, th⟩
      have t3 : t ≤ 3 := by omega
      have th1 : Thing 29 1000000 d := th.mono (by omega) (by omega)
      have okd : Ok d := th1.ok (by decide) (by decide)
      have okw : Ok (wl d) := (wl_ok th1 (by decide)).ok (by decide) (by decide)
      refine ⟨_, rfl, x, d, rfl, hx.dp, th1.mono (by decide) (by decide), by decide, fun u H4 s4 hu => ?_⟩
      refine ⟨_, rfl, x, d, rfl, (hx.same s4).dp, okd, _, _, rfl, ?_⟩
      refine ⟨_, rfl, x, d, rfl, (hx.same s4).dp, th1, fun v2 H5 s5 hv2 => ⟨v2, wl d, rfl, hv2, okw, ?_⟩⟩
      refine ⟨_, rfl, u, wl d, rfl, dp_mono s5 _ _ hu, okw, rfl, _, rfl, iteNS rfl ?_⟩
      refine ⟨_, rfl, x, d, rfl, ((hx.same s4).same s5).dp, th1.mono (by decide) (by decide), fun H6 s6 => ⟨_, .bool _, rfl, .bl _, bool_ok _, ?_⟩⟩
      refine ⟨_, rfl, (by show 0 ≤ sizeLine; decide), fun e he => ⟨wl d, .list [], dp_mono (s5.trans (s6.trans (same_new he _))) _ _ hu, .lst (SqL.of upd_same) .nil, okw.shaped, rfl, ?_⟩⟩
      refine ⟨_, .bool _, rfl, .bl _, bool_ok _, rfl, _, rfl, ?_⟩
      refine iteNS (by rw [eqv_wl]) ?_
      have s7 := s4.trans (s5.trans (s6.trans (same_new he (.lst []))))
      have hx7 := hx.same s7
      refine ⟨_, rfl, x, d, rfl, hx7.dp, okd, _, rfl, rfl, _, rfl, iteNS rfl ?_⟩
      refine ⟨_, rfl, x, d, rfl, hx7.dp, th1.mono (by decide) (by decide), by decide, fun sa ts pls H8 s8 hn hs dp8 pne pl pc => ?_⟩
      have hB7 := hB3.same s7
      have hB8 := hB7.same s8
      have sab : sa ≠ b := fun z => by obtain ⟨_, _, e⟩ := hB7; rw [← z, hn] at e; cases e
      have tl := DpAll.length dp8
      rw [List.length_map] at tl
      have tw := th1.wt
      have tpos : 0 < pls.length := List.length_pos_iff.mpr pne
      refine ⟨_, rfl, _, rfl, _, rfl, _, rfl, sa, ts, rfl, .inl (SqL.of hs), b, _, rfl, hB8, by omega, by omega, fun r H9 r0 r1 st9 => ?_⟩
      obtain ⟨tv, e1, e2⟩ := atI_of (xs := ts) r0 r1
      refine ⟨sa, ts, _, tv, rfl, rfl, SqL.of (st9.keep sa _ sab hs), e1, ?_⟩
      obtain ⟨pd, f1, f2⟩ := DpAll.get dp8 e2
      rw [List.getElem?_map] at f1
      obtain ⟨p, fp, rfl⟩ := Option.map_eq_some_iff.mp f1
      have pq : Dq K [b] H8 tv (plD p) := place_q (fun ys => by obtain ⟨_, _, e⟩ := hB8; rw [e]; intro z; cases z) (fun o ys => by obtain ⟨_, _, e⟩ := hB8; rw [e]; intro z; cases z) f2
      have b1 : b ∈ [b] := by simp
      refine ⟨_, rfl, _, rfl, b, [b], _, rfl, st9.bag, b1, st9.bag.there, fun o od H10 st10 ho tho => ?_⟩
      have hx10 : Dq K [b] H10 x d := ((hx7.same s8).to (st9.hide b1)).to (st10.hide b1)
      have pq10 : Dq K [b] H10 tv (plD p) := (pq.to (st9.hide b1)).to (st10.hide b1)
      have pl1 := pl p (List.mem_of_getElem? fp)
      have thd := th.deep
      refine ⟨[b], x, tv, o, d, od, p, rfl, st10.bag.there, hx10, pq10.dp, ho, by omega, th1.mono (by decide) (by decide), fun u2 H11 s11 hu2 => ?_⟩
      obtain ⟨z1, z2, z3⟩ := put_thing p d od th.fine tho.fine
      have o2 := tho.deep
      have o3 := tho.wt
      have th3 := th.wt
      exact ⟨u2, _, _, _, _, _, _, rfl, (keep (keep ((s3.trans s7).trans s8) st9) st10).trans s11, st10.bag.same s11, hu2, ⟨z1, by omega, by omega⟩⟩
    · rintro σ H3 ⟨x, d, u1, u4, u5, u6, u7, rfl, s3, hB3, hx, th⟩
      exact ⟨_, _, _, _, _, _, _, rfl, s3⟩
  · rintro σ H0 ⟨u1, u2, u3, u4, u5, u6, u7, rfl, s0⟩
    exact q H0
end
end Tx

namespace Tx
open PySem PySem.Spec PyProof.Rows L2
abbrev sBadValue : Stmt := inClass (top 2) 0
theorem scBadValue : FnScope ["self", "place"] ["self", "place"] (defScope sBadValue) := ⟨rfl, rfl, rfl, by decide +kernel, rfl, by decide +kernel, by decide +kernel⟩
theorem ini_BadValue {P : Program} {w : World} {K : PySem.W.Frag} {mg : Str → Option Value} {base : Heap} {C fI : Addr} {oc kV dc pm cd ct : Value} {od an : Option Addr} {sl : Array (Option Value)}
    (l : K.lookup fI = some ⟨oc, od, .func (PySem.W.fnOf "__init__" "BadValue.__init__" (defArgs sBadValue) (defBody sBadValue) (defScope sBadValue) .none kV dc pm an cd ct), sl⟩) (c : PySem.W.codeIn K cd "BadValue.__init__" = true) (k : PySem.W.keepIn K (.ref fI) = true)
    (no : PySem.W.findIn K (.ref C) "place" = some none) (T : OexC K C) : FnOk P w K mg base CX0 1 fI (PySem.W.fnOf "__init__" "BadValue.__init__" (defArgs sBadValue) (defBody sBadValue) (defScope sBadValue) .none kV dc pm an cd ct) ["self", "place"] (spInit1 C "place") ∧ Binds K (PySem.W.fnOf "__init__" "BadValue.__init__" (defArgs sBadValue) (defBody sBadValue) (defScope sBadValue) .none kV dc pm an cd ct) ["self", "place"] [] := by
  have F := fun_mk (st := sBadValue) l c k
  refine ⟨F.ok scBadValue (fun vs H Q E h => ?_) (fun cv A out s H vs Q E hr h => ?_), F.binds fun _ _ _ _ _ _ us hl => match us, hl with | [_, _], _ => rfl⟩
  · obtain ⟨a, v, rfl, _⟩ := h
    rfl
  obtain ⟨a, v, rfl, ha, q⟩ := h
  exact ⟨_, pss_one (ps_ost (pv 0) (pv 1)), _, rfl, _, rfl, a, C, rfl, T, no, .inl ⟨ha, fun dx hx ne => q dx hx ne⟩⟩
theorem main {P : Program} {w : World} {K : PySem.W.Frag} {mg : Str → Option Value} {base : Heap} {CB CT CN CP : Addr} (B : Bi mg) (hTake : Has K mg "_law_take" sTake) (hBag : Has K mg "_law_bag" sBag) (hText : Has K mg "_law_text" sText) (hSize : Has K mg "_law_size" sSize)
    (hValue : Has K mg "_law_value" sValue) (hGreat : Has K mg "_law_great" sGreat) (hSpots : Has K mg "_law_spots" sSpots) (hPut : Has K mg "_law_put" sPut) (hOdd : Has K mg "_law_odd" sOdd) (hWrong : Has K mg "_law_wrong" sWrong) (hTold : Has K mg "_law_told" sTold) (hLaw : Has K mg "law" sLaw)
    (hIsText : Has K mg "is_text" sIsText) (hWrongPlace : Has K mg "wrong_place" sWrongPlace) (hIsValue : Has K mg "is_value" sIsValue) (hCheckValue : Has K mg "check_value" sCheckValue)
    (gL : ∃ t, mg "LETTERS" = some (.str "abcdefghijklmnopqrstuvwxyz" t)) (XB : Err1 P w K mg base "BadValue" "place" CB) (XT : Cls0 mg "TextorlistError" CT) (XN : Cls0 mg "NoPlace" CN) (XP : Cls0 mg "BadProgram" CP)
    (k1 : PySem.W.kitOne K (.ref CB) (.ref CT) = some true) (k2 : PySem.W.kitOne K (.ref CB) (.type "ValueError") = some true) (k3 : PySem.W.kitAny K (.ref CB) [.ref CN, .ref CP] = some false) :
    Dfn P w K mg base CX0 37 "law" ["_law_script"] (spLaw K) := by
  have DT := d_take (P := P) (w := w) (base := base) hTake B
  have DX := d_text hText B DT
  have DV := d_value hValue B DT DX (d_size hSize B 20) 6 (by decide)
  have DI := d_is_text (P := P) (w := w) (base := base) hIsText B gL
  have DW := d_wrong_place hWrongPlace B DI 30
  exact d_law hLaw B DT (d_bag hBag B) (d_great hGreat B DT DX DV) (d_wrong hWrong B 31 (by decide)) (d_told hTold B (d_check_value hCheckValue B DW XB) XB XT XN XP k1 k2 k3) (d_is_value hIsValue B DW) (d_spots hSpots B 31) (d_put hPut B 31) (d_odd hOdd B DT DX)
end Tx

open PySem PySem.W PyProof.Rows
set_option maxRecDepth 100000 in
set_option maxHeartbeats 0 in
theorem PySem.Challenge.cw_textorlist_k01_values_checked_holds : PySem.Challenge.rw_textorlist_k01_values_checked.Holds := by
  w_on; o_law; k_head; (case hw => w_witness2)
  k_fill
  refine Tx.walkG (l := PySem.Challenge.rw_textorlist_k01_values_checked) (k := 37) (x := "_law_script") (sp := Tx.spLaw) rfl rfl ⟨rfl, by decide, by decide⟩ (fun w h Y => PySem.W.kIn_of Y) ?F (fun K H a ns h1 h2 => ⟨a, ns, rfl, h2, h1, fun _ => rfl⟩)
  case F =>
    intro w mg fa h KX G hmg base b1 b2
    refine' Tx.to_law hmg (Tx.main (base := base) (Tx.bi_of KX G ?b0 ?b1 ?b2 ?b3 ?b4 ?b5 ?b6 ?b7 ?b8 ?b9 ?b10 ?b11 ?b12 ?b13 ?b14 ?b15 ?b16 ?b17) (Tx.has_of (st := Tx.sTake) KX G ?ha0 ?hl0 ?hc0 ?hk0) (Tx.has_of (st := Tx.sBag) KX G ?ha1 ?hl1 ?hc1 ?hk1) (Tx.has_of (st := Tx.sText) KX G ?ha2 ?hl2 ?hc2 ?hk2) (Tx.has_of (st := Tx.sSize) KX G ?ha3 ?hl3 ?hc3 ?hk3) (Tx.has_of (st := Tx.sValue) KX G ?ha4 ?hl4 ?hc4 ?hk4) (Tx.has_of (st := Tx.sGreat) KX G ?ha5 ?hl5 ?hc5 ?hk5) (Tx.has_of (st := Tx.sSpots) KX G ?ha6 ?hl6 ?hc6 ?hk6) (Tx.has_of (st := Tx.sPut) KX G ?ha7 ?hl7 ?hc7 ?hk7) (Tx.has_of (st := Tx.sOdd) KX G ?ha8 ?hl8 ?hc8 ?hk8) (Tx.has_of (st := Tx.sWrong) KX G ?ha9 ?hl9 ?hc9 ?hk9) (Tx.has_of (st := Tx.sTold) KX G ?ha10 ?hl10 ?hc10 ?hk10) (Tx.has_of (st := Tx.sLaw) KX G ?ha11 ?hl11 ?hc11 ?hk11) (Tx.has_of (st := Tx.sIsText) KX G ?ha12 ?hl12 ?hc12 ?hk12) (Tx.has_of (st := Tx.sWrongPlace) KX G ?ha13 ?hl13 ?hc13 ?hk13) (Tx.has_of (st := Tx.sIsValue) KX G ?ha14 ?hl14 ?hc14 ?hk14) (Tx.has_of (st := Tx.sCheckValue) KX G ?ha15 ?hl15 ?hc15 ?hk15) (Tx.const_of KX G ?co0) (Tx.err1_of KX G ?e0aC ?e0xL ?e0vb ?e0sa ?e0ga ?e0gg ?e0nf ?e0ai ?e0ti ?e0kC ?e0eC ?e0tC ?e0hC ?e0cC ?e0gC ?e0uC ?e0oC ?e0sC (Tx.ini_BadValue ?e0il ?e0ic ?e0ik ?e0nf)) (Tx.cls0_of KX G ?cl0) (Tx.cls0_of KX G ?cl1) (Tx.cls0_of KX G ?cl2) ?mo0 ?mo1 ?mo2)
    (case b0 => first | k_is | kit_is | decide +kernel | rfl)
    (case b1 => first | k_is | kit_is | decide +kernel | rfl)
    (case b2 => first | k_is | kit_is | decide +kernel | rfl)
    (case b3 => first | k_is | kit_is | decide +kernel | rfl)
    (case b4 => first | k_is | kit_is | decide +kernel | rfl)
    (case b5 => first | k_is | kit_is | decide +kernel | rfl)
    (case b6 => first | k_is | kit_is | decide +kernel | rfl)
    (case b7 => first | k_is | kit_is | decide +kernel | rfl)
    (case b8 => first | k_is | kit_is | decide +kernel | rfl)
    (case b9 => first | k_is | kit_is | decide +kernel | rfl)
    (case b10 => first | k_is | kit_is | decide +kernel | rfl)
    (case b11 => first | k_is | kit_is | decide +kernel | rfl)
    (case b12 => first | k_is | kit_is | decide +kernel | rfl)
    (case b13 => first | k_is | kit_is | decide +kernel | rfl)
    (case b14 => first | k_is | kit_is | decide +kernel | rfl)
    (case b15 => first | k_is | kit_is | decide +kernel | rfl)
    (case b16 => first | k_is | kit_is | decide +kernel | rfl)
    (case b17 => first | k_is | kit_is | decide +kernel | rfl)
    (case ha0 => first | k_is | kit_is | decide +kernel | rfl)
    (case hl0 => first | k_is | kit_is | decide +kernel | rfl)
    (case hc0 => first | k_is | kit_is | decide +kernel | rfl)
    (case hk0 => first | k_is | kit_is | decide +kernel | rfl)
    (case ha1 => first | k_is | kit_is | decide +kernel | rfl)
    (case hl1 => first | k_is | kit_is | decide +kernel | rfl)
    (case hc1 => first | k_is | kit_is | decide +kernel | rfl)
    (case hk1 => first | k_is | kit_is | decide +kernel | rfl)
    (case ha2 => first | k_is | kit_is | decide +kernel | rfl)
    (case hl2 => first | k_is | kit_is | decide +kernel | rfl)
    (case hc2 => first | k_is | kit_is | decide +kernel | rfl)
    (case hk2 => first | k_is | kit_is | decide +kernel | rfl)
    (case ha3 => first | k_is | kit_is | decide +kernel | rfl)
    (case hl3 => first | k_is | kit_is | decide +kernel | rfl)
    (case hc3 => first | k_is | kit_is | decide +kernel | rfl)
    (case hk3 => first | k_is | kit_is | decide +kernel | rfl)
    (case ha4 => first | k_is | kit_is | decide +kernel | rfl)
    (case hl4 => first | k_is | kit_is | decide +kernel | rfl)
    (case hc4 => first | k_is | kit_is | decide +kernel | rfl)
    (case hk4 => first | k_is | kit_is | decide +kernel | rfl)
    (case ha5 => first | k_is | kit_is | decide +kernel | rfl)
    (case hl5 => first | k_is | kit_is | decide +kernel | rfl)
    (case hc5 => first | k_is | kit_is | decide +kernel | rfl)
    (case hk5 => first | k_is | kit_is | decide +kernel | rfl)
    (case ha6 => first | k_is | kit_is | decide +kernel | rfl)
    (case hl6 => first | k_is | kit_is | decide +kernel | rfl)
    (case hc6 => first | k_is | kit_is | decide +kernel | rfl)
    (case hk6 => first | k_is | kit_is | decide +kernel | rfl)
    (case ha7 => first | k_is | kit_is | decide +kernel | rfl)
    (case hl7 => first | k_is | kit_is | decide +kernel | rfl)
    (case hc7 => first | k_is | kit_is | decide +kernel | rfl)
    (case hk7 => first | k_is | kit_is | decide +kernel | rfl)
    (case ha8 => first | k_is | kit_is | decide +kernel | rfl)
    (case hl8 => first | k_is | kit_is | decide +kernel | rfl)
    (case hc8 => first | k_is | kit_is | decide +kernel | rfl)
    (case hk8 => first | k_is | kit_is | decide +kernel | rfl)
    (case ha9 => first | k_is | kit_is | decide +kernel | rfl)
    (case hl9 => first | k_is | kit_is | decide +kernel | rfl)
    (case hc9 => first | k_is | kit_is | decide +kernel | rfl)
    (case hk9 => first | k_is | kit_is | decide +kernel | rfl)
    (case ha10 => first | k_is | kit_is | decide +kernel | rfl)
    (case hl10 => first | k_is | kit_is | decide +kernel | rfl)
    (case hc10 => first | k_is | kit_is | decide +kernel | rfl)
    (case hk10 => first | k_is | kit_is | decide +kernel | rfl)
    (case ha11 => first | k_is | kit_is | decide +kernel | rfl)
    (case hl11 => first | k_is | kit_is | decide +kernel | rfl)
    (case hc11 => first | k_is | kit_is | decide +kernel | rfl)
    (case hk11 => first | k_is | kit_is | decide +kernel | rfl)
    (case ha12 => first | k_is | kit_is | decide +kernel | rfl)
    (case hl12 => first | k_is | kit_is | decide +kernel | rfl)
    (case hc12 => first | k_is | kit_is | decide +kernel | rfl)
    (case hk12 => first | k_is | kit_is | decide +kernel | rfl)
    (case ha13 => first | k_is | kit_is | decide +kernel | rfl)
    (case hl13 => first | k_is | kit_is | decide +kernel | rfl)
    (case hc13 => first | k_is | kit_is | decide +kernel | rfl)
    (case hk13 => first | k_is | kit_is | decide +kernel | rfl)
    (case ha14 => first | k_is | kit_is | decide +kernel | rfl)
    (case hl14 => first | k_is | kit_is | decide +kernel | rfl)
    (case hc14 => first | k_is | kit_is | decide +kernel | rfl)
    (case hk14 => first | k_is | kit_is | decide +kernel | rfl)
    (case ha15 => first | k_is | kit_is | decide +kernel | rfl)
    (case hl15 => first | k_is | kit_is | decide +kernel | rfl)
    (case hc15 => first | k_is | kit_is | decide +kernel | rfl)
    (case hk15 => first | k_is | kit_is | decide +kernel | rfl)
    (case co0 => first | k_is | kit_is | decide +kernel | rfl)
    (case e0aC => first | k_is | kit_is | decide +kernel | rfl)
    (case e0xL => first | k_is | kit_is | decide +kernel | rfl)
    (case e0vb => first | k_is | kit_is | decide +kernel | rfl)
    (case e0sa => first | k_is | kit_is | decide +kernel | rfl)
    (case e0ga => first | k_is | kit_is | decide +kernel | rfl)
    (case e0gg => first | k_is | kit_is | decide +kernel | rfl)
    (case e0nf => first | k_is | kit_is | decide +kernel | rfl)
    (case e0ai => first | k_is | kit_is | decide +kernel | rfl)
    (case e0ti => first | k_is | kit_is | decide +kernel | rfl)
    (case e0kC => first | k_is | kit_is | decide +kernel | rfl)
    (case e0eC => first | k_is | kit_is | decide +kernel | rfl)
    (case e0tC => first | k_is | kit_is | decide +kernel | rfl)
    (case e0hC => first | k_is | kit_is | decide +kernel | rfl)
    (case e0cC => first | k_is | kit_is | decide +kernel | rfl)
    (case e0gC => first | k_is | kit_is | decide +kernel | rfl)
    (case e0uC => first | k_is | kit_is | decide +kernel | rfl)
    (case e0oC => first | k_is | kit_is | decide +kernel | rfl)
    (case e0sC => first | k_is | kit_is | decide +kernel | rfl)
    (case e0il => first | k_is | kit_is | decide +kernel | rfl)
    (case e0ic => first | k_is | kit_is | decide +kernel | rfl)
    (case e0ik => first | k_is | kit_is | decide +kernel | rfl)
    (case cl0 => first | k_is | kit_is | decide +kernel | rfl)
    (case cl1 => first | k_is | kit_is | decide +kernel | rfl)
    (case cl2 => first | k_is | kit_is | decide +kernel | rfl)
    (case mo0 => first | k_is | kit_is | decide +kernel | rfl)
    (case mo1 => first | k_is | kit_is | decide +kernel | rfl)
    (case mo2 => first | k_is | kit_is | decide +kernel | rfl)
#print axioms PySem.Challenge.cw_textorlist_k01_values_checked_holds
