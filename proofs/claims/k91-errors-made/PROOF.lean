import PyProof.Rows.All
import Wide.All
import OpenK.AllK
import Wide.FinOn
import PyProof.ReprLen
import PyProof.ReprRoads
import PyProof.EqLayable
import HandS.ForMost
import HandS.Exc
import HandS.TryOnly
import HandS.ExcOwn
import HandS.WordsExc
import HandS.IsInst
import HandS.Walk
import HandS.Flow
import HandS.ExcInit
import HandS.ExcIs
import HandS.ExcField
import HandS.TryMany
import PyProof.ListStr
import KE.KExcIs
import HandS.Small
import PySem.Challenge.RW_textorlist_k91_errors_made
set_option Elab.async false
set_option linter.all false
set_option maxRecDepth 100000
set_option maxHeartbeats 4000000
/-! ## Data: what can be shown, how long it is then -/
namespace Tx
open PySem

mutual
/-- no dict, letters of a text below the last code point, iv of less than 1920 bits -/
def fine : PyData → Bool
  | .none | .bool _ => true
  | .int i => decide (i.natAbs.log2 < 1920)
  | .str x => x.cps.toList.all fun c => decide (c < 0x110000)
  | .list xs | .tuple xs => fineAll xs
  | .dict _ => false
def fineAll : List PyData → Bool
  | [] => true
  | x :: xs => fine x && fineAll xs
end
mutual
/-- a bound for the number of signs of its repr -/
def wt : PyData → Nat
  | .none | .bool _ => 5
  | .int _ => 2000
  | .str x => 10 * x.length + 2
  | .list xs | .tuple xs => wtAll xs + 3
  | .dict _ => 0
def wtAll : List PyData → Nat
  | [] => 0
  | x :: xs => wt x + 2 + wtAll xs
end
theorem fineAll_iff : ∀ {xs : List PyData}, fineAll xs = true ↔ ∀ d ∈ xs, fine d = true
  | [] => by simp [fineAll]
  | x :: xs => by simp [fineAll, fineAll_iff (xs := xs)]
theorem wtAll_append : ∀ (xs ys : List PyData), wtAll (xs ++ ys) = wtAll xs + wtAll ys
  | [], ys => by simp [wtAll]
  | x :: xs, ys => by simp only [List.cons_append, wtAll, wtAll_append xs ys]; omega
theorem wtAll_le {B : Nat} : ∀ {xs : List PyData}, (∀ d ∈ xs, wt d ≤ B) → wtAll xs ≤ (B + 2) * xs.length
  | [], _ => by simp [wtAll]
  | x :: xs, h => by
    have h1 := h x List.mem_cons_self
    have h2 := wtAll_le (B := B) (xs := xs) fun d hd => h d (List.mem_cons_of_mem _ hd)
    simp only [wtAll, List.length_cons, Nat.mul_add, Nat.mul_one]
    omega
theorem depthAll_le {n : Nat} : ∀ {xs : List PyData}, (∀ d ∈ xs, d.depth ≤ n) → PyData.depthAll xs ≤ n
  | [], _ => by simp [PyData.depthAll]
  | x :: xs, h => by
    have h1 := h x List.mem_cons_self
    have h2 := depthAll_le (n := n) (xs := xs) fun d hd => h d (List.mem_cons_of_mem _ hd)
    simp only [PyData.depthAll]
    omega
theorem depth_mem : ∀ {xs : List PyData} {d : PyData}, d ∈ xs → d.depth ≤ PyData.depthAll xs
  | [], d, h => by simp at h
  | x :: xs, d, h => by
    simp only [PyData.depthAll]
    cases h with
    | head => omega
    | tail _ h => have := depth_mem h; omega
theorem wt_mem : ∀ {xs : List PyData} {d : PyData}, d ∈ xs → wt d + 2 ≤ wtAll xs
  | [], d, h => by simp at h
  | x :: xs, d, h => by
    simp only [wtAll]
    cases h with
    | head => omega
    | tail _ h => have := wt_mem h; omega
mutual
theorem fine_showable : ∀ d : PyData, fine d = true → d.showable = true
  | .none, _ => rfl
  | .bool _, _ => rfl
  | .str _, _ => rfl
  | .int i, h => by simpa [fine, PyData.showable] using h
  | .list xs, h => by simp only [fine] at h; simp only [PyData.showable]; exact fineAll_showable xs h
  | .tuple xs, h => by simp only [fine] at h; simp only [PyData.showable]; exact fineAll_showable xs h
  | .dict _, h => by simp [fine] at h
theorem fineAll_showable : ∀ xs : List PyData, fineAll xs = true → PyData.showableAll xs = true
  | [], _ => rfl
  | x :: xs, h => by
    simp only [fineAll, Bool.and_eq_true] at h
    simp only [PyData.showableAll, fine_showable x h.1, fineAll_showable xs h.2, Bool.and_self]
end
mutual
theorem fine_lay : ∀ d : PyData, fine d = true → d.canLay0 = true
  | .none, _ => rfl
  | .bool _, _ => rfl
  | .int _, _ => rfl
  | .str x, h => by
    simp only [fine, List.all_eq_true, decide_eq_true_eq] at h
    simp only [PyData.canLay0]
    show x.cps.all (· < 0x110000) = true
    rw [Array.all_eq_true_iff_forall_mem]
    intro c hc
    exact decide_eq_true (h c (Array.mem_toList_iff.mpr hc))
  | .list xs, h => by simp only [fine] at h; simp only [PyData.canLay0]; exact fineAll_lay xs h
  | .tuple xs, h => by simp only [fine] at h; simp only [PyData.canLay0]; exact fineAll_lay xs h
  | .dict _, h => by simp [fine] at h
theorem fineAll_lay : ∀ xs : List PyData, fineAll xs = true → PyData.canLayAll0 xs = true
  | [], _ => rfl
  | x :: xs, h => by
    simp only [fineAll, Bool.and_eq_true] at h
    simp only [PyData.canLayAll0, fine_lay x h.1, fineAll_lay xs h.2, Bool.and_self]
end
mutual
theorem shown_wt : ∀ d : PyData, fine d = true → d.shown.length ≤ wt d
  | .none, _ => by decide
  | .bool b, _ => by cases b <;> decide
  | .int i, h => by
    have e := int_text_fits (a := i) (by simpa [fine] using h)
    have e2 := PyProof.Rows.int_text_len_1921 (i := i) (by simpa [fine] using h)
    simp only [PyData.shown, wt]
    omega
  | .str x, h => by
    simp only [fine, List.all_eq_true, decide_eq_true_eq] at h
    have e := StrLaws.reprText_len x fun c hc => by
      have := h c hc
      have e8 : (16 : Nat) ^ 8 = 4294967296 := by decide
      omega
    simpa only [PyData.shown, wt] using e
  | .list xs, h => by
    simp only [fine] at h
    have h1 := shownAll_wt xs h
    have h2 := listText_len_le (PyData.shownAll xs)
    simp only [PyData.shown, wt]
    omega
  | .tuple xs, h => by
    simp only [fine] at h
    have h1 := shownAll_wt xs h
    have h2 := tupleText_len_le (PyData.shownAll xs)
    simp only [PyData.shown, wt]
    omega
  | .dict _, h => by simp [fine] at h
theorem shownAll_wt : ∀ xs : List PyData, fineAll xs = true → ((PyData.shownAll xs).map (·.length)).sum + 2 * (PyData.shownAll xs).length ≤ wtAll xs
  | [], _ => by simp [PyData.shownAll, wtAll]
  | x :: xs, h => by
    simp only [fineAll, Bool.and_eq_true] at h
    have h1 := shown_wt x h.1
    have h2 := shownAll_wt xs h.2
    simp only [PyData.shownAll, wtAll, List.map_cons, List.sum_cons, List.length_cons]
    omega
end
/-- may be shown and compared -/
def Ok (d : PyData) : Prop := fine d = true ∧ d.depth ≤ 60 ∧ wt d ≤ 16000000
theorem Ok.fits {d : PyData} (h : Ok d) : d.shown.length ≤ sizeLine := by
  have := shown_wt d h.1
  have := h.2.2
  rw [sizeLine_eq]
  omega
theorem Ok.nodict {d : PyData} (h : Ok d) : d.hasDict = false := PyData.hasDict_of_canLay d (fine_lay d h.1)
theorem Ok.shaped {d : PyData} (h : Ok d) : SeqAt.shaped d = true := by
  unfold SeqAt.shaped
  rw [fine_lay d h.1, Bool.true_and]
  exact decide_eq_true (Nat.le_trans h.2.1 (by decide))
end Tx
/-! ## What the kit's hand layer lacks for these laws: a def that is run where no repr is under way (guards), repr of data of any depth -/
namespace Tx
open PySem PySem.Spec PyProof.Rows L2

/-- a def's promise, asked only where nothing is being shown -/
structure FnG (P : Program) (w : World) (K : PySem.W.Frag) (mg : Str → Option Value) (base : Heap) (CX : CXT) (k : Nat)
    (f : Addr) (fd : FuncData) (ps : List Str) (sp : Sp) : Prop where
  len : ∀ vs H Q E, sp vs H Q E → vs.length = ps.length
  run : ∀ (A : Around) (out : List Env) (s : Shared) (H : Hp) (ar : Args) (us : List Value) (vs : List V) (Q : VK) (E : XK),
    Room k A → A.guards = some [] → Env0 P w K mg base A out s H → BindsTo s fd ar (ps.zip us) → Vals vs us → sp vs H Q E →
      codeAny (model P w) A (.call (.ref f) ar) (CR CX out P w H s Q E) s

section
variable {P : Program} {w : World} {K : PySem.W.Frag} {mg : Str → Option Value} {base : Heap} {CX : CXT} {k : Nat} {f : Addr} {fd : FuncData}
  {ps N : List Str} {sp : Sp} {x qual : Str} {st : Stmt}
theorem FnG.of (F : FnOk P w K mg base CX k f fd ps sp) : FnG P w K mg base CX k f fd ps sp :=
  ⟨F.len, fun A out s H ar us vs Q E r _ e b v h => F.run A out s H ar us vs Q E r e b v h⟩
theorem FnG.mono {j : Nat} (F : FnG P w K mg base CX j f fd ps sp) (h : j ≤ k) : FnG P w K mg base CX k f fd ps sp :=
  ⟨F.len, fun A out s H ar us vs Q E r g e b v q => F.run A out s H ar us vs Q E (r.mono h) g e b v q⟩

/-- from the body's reading to the promise -/
theorem okG (F : Fun K x qual st f fd) (S : FnScope N ps (defScope st)) (len : ∀ vs H Q E, sp vs H Q E → vs.length = ps.length)
    (body : ∀ (cv : Value) (A : Around) (out : List Env) (s : Shared) (H : Hp) (vs : List V) (Q : VK) (E : XK),
      Room k (A.deeper (envOfC qual (defScope st) s.heap.objs.size f cv)) → A.guards = some [] → sp vs H Q E →
      ∃ t, PSs (cxOf CX P w K mg base N qual (defScope st) f cv A out s H E) (defBody st) t ∧
        t { nx := fun _ H' => Q .non H', rt := Q } (start N vs) H) :
    FnG P w K mg base CX (k + 1) f fd ps sp := by
  obtain ⟨_, _, _, _, _, _, cv, _, _, rfl, at_f, code⟩ := F.ex
  refine ⟨len, fun A out s H ar us vs Q E room gd e0 bd rel ask => ?_⟩
  have inH : K.In s.heap := e0.mod.kin.keeps fun b o z => (e0.bs b o z).1
  have free : s.heap.NoLimit := e0.mod.nolimit.keeps fun b o z => (e0.bs b o z).1
  refine codeAny_call_function room.depth (inH _ _ at_f) rfl S.co S.gen rfl (PySem.W.codeRec_of inH code) (bd _ _ _ _ ?_)
  refine wpAny_newFunctionEnv_cells S.kind ?kinds ?entered
  case kinds =>
    rintro ⟨nm, val⟩ hz
    cases S.par nm (List.of_mem_zip hz).1 with
    | inl q => exact .inl q
    | inr q => exact .inr ⟨q, PySem.W.cellsFrom_some _ _ _ (.inl q)⟩
  case entered =>
    rintro env rfl s1 ic
    obtain ⟨t, pss, rd⟩ := body cv A out s H vs Q E (room.deeper _) gd ask
    have I := inv_start (CX := CX) (E := E) S room.hd e0 (len _ _ _ _ ask) rel ic
    refine ⟨free.keeps ic.toInCall.keep, codeAny_func (wpAny_mono (pss.run [] s1 (start N vs) H _ I rd) ?_ fun _ _ z => z)⟩
    intro fl s2 got
    cases fl with
    | next => obtain ⟨_, H2, J, q⟩ := got; exact ⟨.non, H2, J.os, J.bare, J.base, J.hok, rfl, q⟩
    | ret u => obtain ⟨v, _, H2, J, r, q⟩ := got; exact ⟨v, H2, J.os, J.bare, J.base, J.hok, r, q⟩
    | brk => obtain ⟨_, _, _, q⟩ := got; exact False.elim q
    | cont => obtain ⟨_, _, _, q⟩ := got; exact False.elim q

end
section
variable {X : Cx} {CX : CXT} {k : Nat} {f : Addr} {fd : FuncData} {ps : List Str} {sp : Sp} {dvs : List V} {ds : List Value} {E : XK}
  {x : Str} {p pos : Pos} {e : Expr} {es : List Expr} {t : TA}
/-- f(e, ..) of such a def -/
theorem pe_callG (F : FnG X.prog X.w X.K X.mg X.base CX k f fd ps sp) (room : Room k X.A) (gd : X.A.guards = some []) (gl : Gl X x) (at_f : X.mg x = some (.ref f))
    (kp : PySem.W.keepIn X.K (.ref f) = true) (bd : Binds X.K fd ps ds) (dv : Vals dvs ds) (out : Passes CX X E) (args : PA X (e :: es) t)
    (nd : (x == ("__debug__" : Str)) = false := by decide)
    (plain : starEach (e :: es) X.env = (false, eval e X.env) :: starEach es X.env := by rfl)
    (bare : (backTo pos (starEach es X.env)).any (·.1) = false := by rfl) :
    PE X (.Call (.Name x p) (e :: es) [] pos) (tCall sp dvs E t) := by
  constructor
  intro pins s σ H Q I ask
  refine wpAny_Call_Name_kw (ld_glob I gl at_f ?_ nd)
  refine PySem.W.callWith_K (h₀ := X.base) I.ok.mod.kin kp (thn (args.run pos pins s σ H _ I ask) ?_) plain bare
  rintro us s1 ⟨vs, H1, J, rel, q⟩
  refine ⟨J.kIn, ?_⟩
  have both : Vals (vs ++ dvs) (us ++ ds) := rel.append dv
  have full : (us ++ ds).length = ps.length := both.length.symm.trans (F.len _ _ _ _ q)
  refine wpAny_call (codeAny_mono (F.run X.A X.stack s1 H1 ⟨us, []⟩ (us ++ ds) (vs ++ dvs) Q E room gd J.env0 (bd s1 us J.kIn full) both q) ?_)
  intro r s2 got
  match r, got with
  | .ok (.ret u), got => exact J.after got
  | .ok .next, got => exact False.elim got
  | .ok .brk, got => exact False.elim got
  | .ok .cont, got => exact False.elim got
  | .error er, got => exact out pins σ H1 s1 er s2 J got
end

/-! ### the end of a law row -/
section
/-- the abstract heap at the law's entry: the script alone, locked, unless it is an object of the module -/
def entryH (K : PySem.W.Frag) (a : Addr) (o : Obj) (xs : List V) : Hp := fun b => if b = a ∧ K.lookup a = none then some (.frz o (.lst xs)) else none
theorem entryH_some {K : PySem.W.Frag} {a b : Addr} {o : Obj} {xs : List V} {u : HO} (h : entryH K a o xs b = some u) : b = a ∧ K.lookup a = none ∧ u = .frz o (.lst xs) := by
  unfold entryH at h
  split at h
  · rename_i c; exact ⟨c.1, c.2, (Option.some.inj h).symm⟩
  · cases h
theorem lawG {P : Program} {w : World} {K : PySem.W.Frag} {mg mb : Str → Option Value} {k : Nat} {fa a : Addr} {x : Str} {sp : Sp} {s : Shared} {vs : List Value} {ns : List Int}
    (inK : K.In s.heap) (gl : s.heap.Ns mainGlobals mg) (bl : s.heap.Ns builtinsNs mb) (boot : ∀ y : Str, y ≠ "__name__" → mb y = bootBuiltins y) (lim : s.heap.NoLimit) (gens : s.gens = #[])
    (ob : s.heap.get? a = some { cls := .type "list", data := .seq vs.toArray }) (iv : IntsAre vs ns) (small : ns.length ≤ sizeLine) (room : Room k callerA)
    (F : ∀ base : Heap, K.In base → base.Ns mainGlobals mg → ∃ fd : FuncData, FnG P w K mg base CX0 k fa fd [x] sp ∧ Binds K fd [x] [])
    (ask : ∀ H : Hp, SqL K H a (ns.map V.int) → sp [.ref a] H (fun v _ => v = .bl true) fun _ _ _ => False) :
    codeAny (model P w) callerA (.call (.ref fa) ⟨[.ref a], []⟩) (fun r s' => r = .ok (.ret (.bool true)) ∧ OldK s.heap s'.heap ∧ s'.os = s.os ∧ AllBare s'.gens) s := by
  have rel := vals_ints iv
  have same := iv.length
  let o : Obj := { cls := .type "list", data := .seq vs.toArray }
  let H := entryH K a o (ns.map V.int)
  have sq : SqL K H a (ns.map V.int) := by
    cases hk : K.lookup a with
    | none => exact .inl (.inr ⟨o, if_pos ⟨rfl, hk⟩⟩)
    | some u =>
      have z := inK a u hk
      rw [ob] at z
      cases z
      exact .inr ⟨_, vs.toArray, _, hk, rfl, rfl, rfl, (by rw [List.size_toArray, same]; exact small), by simpa using rel⟩
  have hok : HOk P w H s.heap := by
    intro b u z
    obtain ⟨rfl, _, rfl⟩ := entryH_some z
    exact ⟨ob, by rw [List.length_map]; exact small, vs, _, rel, ob⟩
  have shown : ∀ {b : Addr} {u : Obj}, s.heap.get? b = some u → (b = a → K.lookup a ≠ none) → (hidT s.heap H).get? b = some u := by
    intro b u z n
    refine hidT_get z ?_
    show entryH K a o (ns.map V.int) b = none
    unfold entryH
    rw [if_neg]
    exact fun c => n c.1 c.2
  have names : ∀ {b : Addr} {m : Str → Option Value}, s.heap.Ns b m → (hidT s.heap H).Ns b m := by
    rintro b m ⟨u, es, ep, z, dt, more⟩
    refine ⟨u, es, ep, shown z ?_, dt, more⟩
    rintro rfl
    rw [ob] at z
    cases z
    cases dt
  have inB : K.In (hidT s.heap H) := fun b u z => shown (inK b u z) (by rintro rfl n; rw [z] at n; cases n)
  have md : Mod K mg (hidT s.heap H) := ⟨inB, names gl, ⟨mb, names bl, boot⟩, by obtain ⟨mc, z1, z2⟩ := lim; exact ⟨mc, names z1, z2⟩⟩
  have e0 : Env0 P w K mg (hidT s.heap H) callerA [] s H :=
    { frames := rfl, mod := md, bs := fun b u z => of_hidT z, bsz := Nat.le_of_eq (hidT_size _ _), funs := trivial, frf := fun b z => (nomatch z), hok := hok, bare := .of_eq gens }
  obtain ⟨fd, FF, bd⟩ := F _ inB (names gl)
  refine codeAny_mono (FF.run callerA [] s H ⟨[.ref a], []⟩ [.ref a] [.ref a] _ _ room rfl e0 (bd s [.ref a] inK rfl) (.cons rfl .nil) (ask H sq)) ?_
  intro r s' got
  match r, got with
  | .error er, got => exact False.elim got
  | .ok .next, got => exact False.elim got
  | .ok .brk, got => exact False.elim got
  | .ok .cont, got => exact False.elim got
  | .ok (.ret u), ⟨v, H', os, bare, un, hok', r', q⟩ =>
    have q' : v = .bl true := q
    subst q'
    obtain rfl : u = Value.bool true := r'
    refine ⟨rfl, OldK.of_keep fun b ou z => ?_, os, bare⟩
    cases hb : H b with
    | none => exact un.keep b ou z hb (fun y => nomatch y) (by simp)
    | some hu =>
      obtain ⟨rfl, _, rfl⟩ := entryH_some hb
      have z2 := hok' _ _ (un.frzs _ _ _ hb)
      rw [ob] at z
      cases z
      exact z2.1

/-- what k_head leaves, from the law's promise -/
theorem walkG {l : PySem.W.OpenLaw} {k : Nat} {q : Program} {loose : List Str} {XP : (Str → Option Value) → Heap → Prop} {YP : World → Heap → Prop} {d : DefRec} {K : Params → PySem.W.Frag} {sp : PySem.W.Frag → Sp} {x : Str}
    (most : l.most = some 63) (df : d.params.defaults = []) (room : Room k callerA) (inY : ∀ (w : World) (h : Heap), YP w h → (K w.params).In h)
    (F : ∀ (w : World) (mg : Str → Option Value) (fa : Addr) (h : Heap), (K w.params).In h → h.Ns mainGlobals mg → mg d.name = some (.ref fa) →
        ∀ base : Heap, (K w.params).In base → base.Ns mainGlobals mg → ∃ fd : FuncData, FnG l.prog w (K w.params) mg base CX0 k fa fd [x] (sp (K w.params)) ∧ Binds (K w.params) fd [x] [])
    (ask : ∀ (K : PySem.W.Frag) (H : Hp) (a : Addr) (ns : List Int), ns.length ≤ 63 → SqL K H a (ns.map V.int) → sp K [.ref a] H (fun v _ => v = .bl true) fun _ _ _ => False) :
    PySem.W.WalkO q loose XP YP l.row.toRowW d [] (fun f vs => PySem.call f vs) := by
  refine Att.attach_call most df ?_
  intro w s0 s mg mb fa o pm cd doc a vs ns G Y ho hd hcd hmg ob iv hlen gens
  exact lawG (inY w _ Y) G.T.g G.T.b G.T.builtins G.T.nolimit gens ob iv (Nat.le_trans hlen (by decide)) room (F w mg fa _ (inY w _ Y) G.T.g hmg) fun H hS => ask _ H a ns hlen hS
end

/-! ### repr of data, isinstance of data -/
section
variable {K : PySem.W.Frag} {H H' : Hp}
theorem Same.sqT {a : Addr} {xs : List V} (e : Same H H') (h : SqT K H a xs) : SqT K H' a xs := by
  rcases h with (h | ⟨o, h⟩) | h
  · exact .inl (.inl (e _ _ h))
  · exact .inl (.inr ⟨o, e _ _ h⟩)
  · exact .inr h
mutual
theorem dp_mono (e : Same H H') : ∀ (d : PyData) (v : V), Dp K H v d → Dp K H' v d
  | .none, _, h => by cases h; exact .non
  | .bool b, _, h => by cases h; exact .bl b
  | .int i, _, h => by cases h; exact .int i
  | .str x, _, h => by cases h; exact .str x
  | .list ds, _, h => by
    cases h with
    | lst hs ha => exact .lst (e.seq hs) (dpAll_mono e ds _ ha)
  | .tuple ds, _, h => by
    cases h with
    | tup hs ha => exact .tup (Same.sqT e hs) (dpAll_mono e ds _ ha)
  | .dict _, _, h => by cases h
theorem dpAll_mono (e : Same H H') : ∀ (ds : List PyData) (vs : List V), DpAll K H vs ds → DpAll K H' vs ds
  | [], _, h => by cases h; exact .nil
  | d :: ds, _, h => by
    cases h with
    | cons h1 h2 => exact .cons (dp_mono e d _ h1) (dpAll_mono e ds _ h2)
end
theorem DpAll.length : ∀ {ds : List PyData} {vs : List V}, DpAll K H vs ds → vs.length = ds.length
  | _, _, .nil => rfl
  | _, _, .cons _ t => by rw [List.length_cons, List.length_cons, DpAll.length t]
theorem DpAll.get : ∀ {ds : List PyData} {vs : List V} {i : Nat} {v : V}, DpAll K H vs ds → vs[i]? = some v → ∃ d, ds[i]? = some d ∧ Dp K H v d
  | _, _, _, _, .nil, e => by simp at e
  | _, _, 0, _, .cons h _, e => by simp at e; subst e; exact ⟨_, rfl, h⟩
  | _, _, i + 1, v, .cons _ t, e => by
    obtain ⟨d, h1, h2⟩ := DpAll.get (i := i) (v := v) t (by simpa using e)
    exact ⟨d, by simpa using h1, h2⟩
theorem DpAll.append : ∀ {ds es : List PyData} {vs ws : List V}, DpAll K H vs ds → DpAll K H ws es → DpAll K H (vs ++ ws) (ds ++ es)
  | _, _, _, _, .nil, h => h
  | _, _, _, _, .cons h t, g => .cons h (DpAll.append t g)
theorem DpAll.one {v : V} {d : PyData} (h : Dp K H v d) : DpAll K H [v] [d] := .cons h .nil
theorem DpAll.take : ∀ {ds : List PyData} {vs : List V} (n : Nat), DpAll K H vs ds → DpAll K H (vs.take n) (ds.take n)
  | _, _, 0, _ => by simpa using DpAll.nil
  | _, _, _ + 1, .nil => .nil
  | _, _, n + 1, .cons h t => .cons h (DpAll.take n t)
theorem DpAll.drop : ∀ {ds : List PyData} {vs : List V} (n : Nat), DpAll K H vs ds → DpAll K H (vs.drop n) (ds.drop n)
  | _, _, 0, h => by simpa using h
  | _, _, _ + 1, .nil => .nil
  | _, _, n + 1, .cons _ t => DpAll.drop n t
/-- the name of its class -/
def tyN : PyData → String
  | .none => "NoneType"
  | .bool _ => "bool"
  | .int _ => "int"
  | .str _ => "str"
  | .list _ => "list"
  | .tuple _ => "tuple"
  | .dict _ => "dict"
theorem tyx_of {v : V} {d : PyData} (h : Dp K H v d) : TyX K H v (.type (tyN d)) := by
  cases h with
  | non => exact .base .non
  | bl b => exact .base (.bl b)
  | int i => exact .base (.int i)
  | str x => exact .base (.str x)
  | lst hs _ =>
    rcases hs with (h | ⟨o, h⟩) | ⟨o, its, n, h, hc, _⟩
    · exact .base (.lst h)
    · exact .base (.frz h)
    · exact .kList h hc
  | tup hs _ =>
    rcases hs with (h | ⟨o, h⟩) | ⟨o, its, n, h, hc, _⟩
    · exact .base (.tup h)
    · exact .fTuple h
    · exact .kTuple h hc
end
section
variable {X : Cx}
/-- repr(v), v data -/
def rRepr (K : PySem.W.Frag) : List V → Hp → VK → Prop := fun xs H Q => ∃ (v : V) (d : PyData), xs = [v] ∧ Dp K H v d ∧ Ok d ∧ Q (.str d.shown) H
theorem call_repr (gd : X.A.guards = some []) (hu : X.A.units + 64 < cLine) : CallR X (.builtin "repr") (rRepr X.K) := by
  intro pins s σ H xs us Q I rel ask
  obtain ⟨v, d, rfl, hd, ok, q⟩ := ask
  cases rel with
  | @cons _ u _ _ r1 r2 =>
    cases r2
    obtain ⟨as, rd⟩ := Dp.reads I d v u hd r1
    have big : ∀ a, u = Value.ref a → wpAny (model X.prog X.w) X.A (call (.builtin "repr") [u]) (EP X pins σ Q) X.xe s := by
      rintro a rfl
      refine repr_of_reads' rd (fine_showable d ok.1) (PyData.noDict_hsm ok.nodict) gd (by have := ok.2.1; omega) (fun _ _ z => z) (fun h' t tk hk => ?_) ok.fits
      exact ⟨.str d.shown, H, I.kept (t' := tk) hk, ⟨t, rfl⟩, q⟩
    cases hd with
    | non =>
      obtain rfl : u = Value.none := r1
      exact PySem.P.repr_of_none ⟨.str _, H, I.tok _, ⟨_, rfl⟩, q⟩
    | bl b =>
      obtain rfl : u = Value.bool b := r1
      refine PySem.P.repr_of_bool ⟨.str _, H, I.tok _, ⟨s.toks, ?_⟩, q⟩
      cases b <;> rfl
    | int i =>
      obtain ⟨t, rfl⟩ := r1
      exact PySem.P.repr_of_int (by simpa [fine] using ok.1) ⟨.str _, H, I.tok _, ⟨_, rfl⟩, q⟩
    | str x =>
      obtain ⟨t, rfl⟩ := r1
      exact PySem.P.repr_of_str ⟨.str _, H, I.tok _, ⟨_, rfl⟩, q⟩ ok.fits
    | lst _ _ => exact big _ r1
    | tup _ _ => exact big _ r1
end
section
variable {X : Cx}
/-- isinstance(v, T), v data, T a built-in class -/
def rIsD (K : PySem.W.Frag) (T : String) : List V → Hp → VK → Prop := fun xs H Q => ∃ (v : V) (d : PyData) (b : Bool), xs = [v, .ty T] ∧ Dp K H v d ∧ kitB (tyN d) T = some b ∧ Q (.bl b) H
theorem call_isD {T : String} : CallR X (.builtin "isinstance") (rIsD X.K T) := by
  intro pins s σ H xs us Q I rel ask
  obtain ⟨v, d, b, rfl, hd, e, q⟩ := ask
  exact call_isi pins s σ H _ us Q I rel ⟨v, .ty T, .type (tyN d), .type T, b, rfl, .ty T, tyx_of hd, kit_ty e, q⟩
end
def isL : PyData → Bool
  | .list _ => true
  | _ => false
def isS : PyData → Bool
  | .str _ => true
  | _ => false
def isI : PyData → Bool
  | .int _ => true
  | .bool _ => true
  | _ => false
def isB : PyData → Bool
  | .bool _ => true
  | _ => false
def isT : PyData → Bool
  | .tuple _ => true
  | _ => false
theorem kit_list : ∀ d : PyData, kitB (tyN d) "list" = some (isL d)
  | .none => (by decide +kernel : kitB "NoneType" "list" = some false)
  | .bool _ => (by decide +kernel : kitB "bool" "list" = some false)
  | .int _ => (by decide +kernel : kitB "int" "list" = some false)
  | .str _ => (by decide +kernel : kitB "str" "list" = some false)
  | .list _ => (by decide +kernel : kitB "list" "list" = some true)
  | .tuple _ => (by decide +kernel : kitB "tuple" "list" = some false)
  | .dict _ => (by decide +kernel : kitB "dict" "list" = some false)
theorem kit_str : ∀ d : PyData, kitB (tyN d) "str" = some (isS d)
  | .none => (by decide +kernel : kitB "NoneType" "str" = some false)
  | .bool _ => (by decide +kernel : kitB "bool" "str" = some false)
  | .int _ => (by decide +kernel : kitB "int" "str" = some false)
  | .str _ => (by decide +kernel : kitB "str" "str" = some true)
  | .list _ => (by decide +kernel : kitB "list" "str" = some false)
  | .tuple _ => (by decide +kernel : kitB "tuple" "str" = some false)
  | .dict _ => (by decide +kernel : kitB "dict" "str" = some false)
theorem kit_int : ∀ d : PyData, kitB (tyN d) "int" = some (isI d)
  | .none => (by decide +kernel : kitB "NoneType" "int" = some false)
  | .bool _ => (by decide +kernel : kitB "bool" "int" = some true)
  | .int _ => (by decide +kernel : kitB "int" "int" = some true)
  | .str _ => (by decide +kernel : kitB "str" "int" = some false)
  | .list _ => (by decide +kernel : kitB "list" "int" = some false)
  | .tuple _ => (by decide +kernel : kitB "tuple" "int" = some false)
  | .dict _ => (by decide +kernel : kitB "dict" "int" = some false)
theorem kit_bool : ∀ d : PyData, kitB (tyN d) "bool" = some (isB d)
  | .none => (by decide +kernel : kitB "NoneType" "bool" = some false)
  | .bool _ => (by decide +kernel : kitB "bool" "bool" = some true)
  | .int _ => (by decide +kernel : kitB "int" "bool" = some false)
  | .str _ => (by decide +kernel : kitB "str" "bool" = some false)
  | .list _ => (by decide +kernel : kitB "list" "bool" = some false)
  | .tuple _ => (by decide +kernel : kitB "tuple" "bool" = some false)
  | .dict _ => (by decide +kernel : kitB "dict" "bool" = some false)
theorem kit_tuple : ∀ d : PyData, kitB (tyN d) "tuple" = some (isT d)
  | .none => (by decide +kernel : kitB "NoneType" "tuple" = some false)
  | .bool _ => (by decide +kernel : kitB "bool" "tuple" = some false)
  | .int _ => (by decide +kernel : kitB "int" "tuple" = some false)
  | .str _ => (by decide +kernel : kitB "str" "tuple" = some false)
  | .list _ => (by decide +kernel : kitB "list" "tuple" = some false)
  | .tuple _ => (by decide +kernel : kitB "tuple" "tuple" = some true)
  | .dict _ => (by decide +kernel : kitB "dict" "tuple" = some false)
end Tx

/-! ## The text's names; what a call needs -/
namespace Tx
open PySem PySem.Spec PyProof.Rows L2

/-- the built-in names that the texts use are not the module's -/
structure Bi (mg : Str → Option Value) : Prop where
  len : mg "len" = none
  int : mg "int" = none
  abs : mg "abs" = none
  range : mg "range" = none
  enumerate : mg "enumerate" = none
  min : mg "min" = none
  max : mg "max" = none
  isinstance : mg "isinstance" = none
  repr : mg "repr" = none
  sum : mg "sum" = none
  all : mg "all" = none
  any : mg "any" = none
  list : mg "list" = none
  str : mg "str" = none
  tuple : mg "tuple" = none
  bool : mg "bool" = none
  sorted : mg "sorted" = none
  ValueError : mg "ValueError" = none
theorem bi_of {K : PySem.W.Frag} {mg : Str → Option Value} {h : Heap} (X : K.In h) (G : h.Ns mainGlobals mg)
    (z0 : PySem.W.nsIn K mainGlobals "len" = some none)
    (z1 : PySem.W.nsIn K mainGlobals "int" = some none)
    (z2 : PySem.W.nsIn K mainGlobals "abs" = some none)
    (z3 : PySem.W.nsIn K mainGlobals "range" = some none)
    (z4 : PySem.W.nsIn K mainGlobals "enumerate" = some none)
    (z5 : PySem.W.nsIn K mainGlobals "min" = some none)
    (z6 : PySem.W.nsIn K mainGlobals "max" = some none)
    (z7 : PySem.W.nsIn K mainGlobals "isinstance" = some none)
    (z8 : PySem.W.nsIn K mainGlobals "repr" = some none)
    (z9 : PySem.W.nsIn K mainGlobals "sum" = some none)
    (z10 : PySem.W.nsIn K mainGlobals "all" = some none)
    (z11 : PySem.W.nsIn K mainGlobals "any" = some none)
    (z12 : PySem.W.nsIn K mainGlobals "list" = some none)
    (z13 : PySem.W.nsIn K mainGlobals "str" = some none)
    (z14 : PySem.W.nsIn K mainGlobals "tuple" = some none)
    (z15 : PySem.W.nsIn K mainGlobals "bool" = some none)
    (z16 : PySem.W.nsIn K mainGlobals "sorted" = some none)
    (z17 : PySem.W.nsIn K mainGlobals "ValueError" = some none) : Bi mg :=
  ⟨PySem.W.mg_none_of X G z0, PySem.W.mg_none_of X G z1, PySem.W.mg_none_of X G z2, PySem.W.mg_none_of X G z3, PySem.W.mg_none_of X G z4, PySem.W.mg_none_of X G z5, PySem.W.mg_none_of X G z6, PySem.W.mg_none_of X G z7, PySem.W.mg_none_of X G z8, PySem.W.mg_none_of X G z9, PySem.W.mg_none_of X G z10, PySem.W.mg_none_of X G z11, PySem.W.mg_none_of X G z12, PySem.W.mg_none_of X G z13, PySem.W.mg_none_of X G z14, PySem.W.mg_none_of X G z15, PySem.W.mg_none_of X G z16, PySem.W.mg_none_of X G z17⟩
/-- what a body's context gives to its calls -/
structure Ct (mg : Str → Option Value) (A : Around) (k : Nat) : Prop where
  b : Bi mg
  r : Room k A
  g : A.guards = some []
theorem Ct.mono {mg : Str → Option Value} {A : Around} {j k : Nat} (c : Ct mg A k) (h : j ≤ k) : Ct mg A j := ⟨c.b, c.r.mono h, c.g⟩
/-- a def of the module -/
def Has (K : PySem.W.Frag) (mg : Str → Option Value) (x : Str) (st : Stmt) : Prop := ∃ (f : Addr) (fd : FuncData), Fun K x x st f fd ∧ mg x = some (.ref f)
theorem has_of {K : PySem.W.Frag} {mg : Str → Option Value} {h : Heap} {x : Str} {st : Stmt} {f : Addr} {oc kV dc pm cd ct : Value} {od an : Option Addr} {sl : Array (Option Value)} (X : K.In h) (G : h.Ns mainGlobals mg)
    (a : PySem.W.nsIn K mainGlobals x = some (some (.ref f)))
    (l : K.lookup f = some ⟨oc, od, .func (PySem.W.fnOf x x (defArgs st) (defBody st) (defScope st) .none kV dc pm an cd ct), sl⟩)
    (c : PySem.W.codeIn K cd x = true) (k : PySem.W.keepIn K (.ref f) = true) : Has K mg x st :=
  ⟨f, _, fun_mk l c k, PySem.W.mg_of X G a⟩
/-- a def of the module and its promise -/
def Dfn (P : Program) (w : World) (K : PySem.W.Frag) (mg : Str → Option Value) (base : Heap) (CX : CXT) (k : Nat) (x : Str) (ps : List Str) (sp : Sp) : Prop :=
  ∃ (f : Addr) (fd : FuncData), FnG P w K mg base CX k f fd ps sp ∧ mg x = some (.ref f) ∧ PySem.W.keepIn K (.ref f) = true ∧ Binds K fd ps []
section
variable {P : Program} {w : World} {K : PySem.W.Frag} {mg : Str → Option Value} {base : Heap} {CX : CXT} {k : Nat} {x : Str} {ps N : List Str} {sp : Sp} {st : Stmt}
theorem Dfn.mono {j : Nat} (D : Dfn P w K mg base CX j x ps sp) (h : j ≤ k) : Dfn P w K mg base CX k x ps sp := by
  obtain ⟨f, fd, F, r⟩ := D
  exact ⟨f, fd, F.mono h, r⟩
/-- how the arguments bind: one pattern a number of parameters -/
def BindsBy (x : Str) (st : Stmt) (ps : List Str) : Prop := ∀ (kV doc pm : Value) (an : Option Addr) (cdv ct : Value) (us : List Value), us.length = ps.length →
  bindArgs (PySem.W.fnOf x x (defArgs st) (defBody st) (defScope st) .none kV doc pm an cdv ct) ⟨us, []⟩ = pure (ps.zip us)
/-- a def that lets nothing out, by its body -/
theorem dfn0 (h : Has K mg x st) (B : Bi mg) (S : FnScope N ps (defScope st)) (bd : BindsBy x st ps) (len : ∀ vs H Q E, sp vs H Q E → vs.length = ps.length)
    (body : ∀ (f : Addr) (cv : Value) (A : Around) (out : List Env) (s : Shared) (H : Hp) (vs : List V) (Q : VK) (E : XK),
      Ct mg (A.deeper (envOfC x (defScope st) s.heap.objs.size f cv)) k → sp vs H Q E →
      ∃ t, PSs (cxOf CX0 P w K mg base N x (defScope st) f cv A out s H E).nox (defBody st) t ∧
        t { nx := fun _ H' => Q .non H', rt := Q } (start N vs) H) :
    Dfn P w K mg base CX0 (k + 1) x ps sp := by
  obtain ⟨f, fd, F, m⟩ := h
  refine ⟨f, fd, okG F S len ?_, m, F.kp, F.binds bd⟩
  intro cv A out s H vs Q E room gd ask
  obtain ⟨t, p, q⟩ := body f cv A out s H vs Q E ⟨B, room, gd⟩ ask
  exact ⟨t, p.nox, q⟩
/-- a def that may raise -/
theorem dfnX (h : Has K mg x st) (B : Bi mg) (S : FnScope N ps (defScope st)) (bd : BindsBy x st ps) (len : ∀ vs H Q E, sp vs H Q E → vs.length = ps.length)
    (body : ∀ (f : Addr) (cv : Value) (A : Around) (out : List Env) (s : Shared) (H : Hp) (vs : List V) (Q : VK) (E : XK),
      Ct mg (A.deeper (envOfC x (defScope st) s.heap.objs.size f cv)) k → sp vs H Q E →
      ∃ t, PSs (cxOf (L2.CX P w) P w K mg base N x (defScope st) f cv A out s H E) (defBody st) t ∧
        t { nx := fun _ H' => Q .non H', rt := Q } (start N vs) H) :
    Dfn P w K mg base (L2.CX P w) (k + 1) x ps sp := by
  obtain ⟨f, fd, F, m⟩ := h
  refine ⟨f, fd, okG F S len ?_, m, F.kp, F.binds bd⟩
  intro cv A out s H vs Q E room gd ask
  exact body f cv A out s H vs Q E ⟨B, room, gd⟩ ask
/-- nothing is promised -/
theorem dfn_none (h : Has K mg x st) (bd : BindsBy x st ps) (no : ∀ vs H Q E, ¬ sp vs H Q E) : Dfn P w K mg base CX0 0 x ps sp := by
  obtain ⟨f, fd, F, m⟩ := h
  exact ⟨f, fd, ⟨fun vs H Q E z => absurd z (no vs H Q E), fun A out s H ar us vs Q E _ _ _ _ _ z => absurd z (no vs H Q E)⟩, m, F.kp, F.binds bd⟩
end
section
variable {X : Cx} {CX : CXT} {j k : Nat} {ps : List Str} {sp : Sp} {E : XK} {x : Str} {p pos : Pos} {e : Expr} {es : List Expr} {t : TA}
/-- f(e, ..), f a def of the module -/
theorem pe_d (D : Dfn X.prog X.w X.K X.mg X.base CX0 j x ps sp) (c : Ct X.mg X.A k) (h : j ≤ k) (gl : Gl X x) (args : PA X (e :: es) t)
    (nd : (x == ("__debug__" : Str)) = false := by decide)
    (plain : starEach (e :: es) X.env = (false, eval e X.env) :: starEach es X.env := by rfl)
    (bare : (backTo pos (starEach es X.env)).any (·.1) = false := by rfl) :
    PE X (.Call (.Name x p) (e :: es) [] pos) (tCall sp [] E0 t) := by
  obtain ⟨f, fd, F, m, kp, bd⟩ := D
  exact pe_callG F (c.r.mono h) c.g gl m kp bd .nil pass0 args nd plain bare
end
/-- the law's own def, for the end -/
theorem to_law {P : Program} {w : World} {K : PySem.W.Frag} {mg : Str → Option Value} {base : Heap} {k : Nat} {x y : Str} {sp : Sp} {fa : Addr} (m : mg x = some (.ref fa)) (D : Dfn P w K mg base CX0 k x [y] sp) :
    ∃ fd : FuncData, FnG P w K mg base CX0 k fa fd [y] sp ∧ Binds K fd [y] [] := by
  obtain ⟨f, fd, F, m2, _, bd⟩ := D
  rw [m] at m2
  cases m2
  exact ⟨fd, F, bd⟩
/-! ### heaps -/
/-- of all addresses but b, what stood stands -/
def SameBut (b : Addr) (H H' : Hp) : Prop := ∀ a o, a ≠ b → H a = some o → H' a = some o
theorem SameBut.refl {b : Addr} {H : Hp} : SameBut b H H := fun _ _ _ h => h
theorem SameBut.trans {b : Addr} {H H1 H2 : Hp} (h : SameBut b H H1) (g : SameBut b H1 H2) : SameBut b H H2 := fun a o n e => g a o n (h a o n e)
theorem SameBut.of {b : Addr} {H H' : Hp} (h : Same H H') : SameBut b H H' := fun a o _ e => h a o e
theorem same_new {H : Hp} {p : Addr} (h : H p = none) (o : HO) : Same H (upd H p o) := fun b u q => by rw [upd_ne (ne_of_none q h)]; exact q
theorem sameBut_upd {H : Hp} {b : Addr} {o : HO} : SameBut b H (upd H b o) := fun a u n e => by rw [upd_ne n]; exact e
end Tx

/-! ## The law's draws: any number below the bound; the bag, a list of two numbers at b, changes -/
namespace Tx
open PySem PySem.Spec PyProof.Rows L2
def top (i : Nat) : Stmt := PySem.Challenge.pw_textorlist_k91_errors_made.main.body.getD i (.Pass ⟨0, 0, 0, 0⟩)
abbrev sTake : Stmt := top 16
theorem scTake : FnScope ["_law_bag_here", "_law_many", "_law_digit"] ["_law_bag_here", "_law_many"] (defScope sTake) := ⟨rfl, rfl, rfl, by decide +kernel, rfl, by decide +kernel, by decide +kernel⟩
abbrev sBag : Stmt := top 15
theorem scBag : FnScope ["_law_script", "_law_at", "_law_cell", "_law_mixed", "_law_place", "_law_each"] ["_law_script", "_law_at"] (defScope sBag) := ⟨rfl, rfl, rfl, by decide +kernel, rfl, by decide +kernel, by decide +kernel⟩
theorem cutV_get {xs : List V} {lo hi : Option Int} {i : Nat} {v : V} (h : (cutV xs lo hi)[i]? = some v) : ∃ j : Nat, xs[j]? = some v := by
  unfold cutV at h
  rw [List.getElem?_take] at h
  split at h
  · rw [List.getElem?_drop] at h
    exact ⟨_, h⟩
  · cases h
theorem atI_of {α : Type} {xs : List α} {i : Int} (h0 : 0 ≤ i) (h1 : i < (xs.length : Int)) : ∃ v, atI xs i = some v ∧ xs[i.toNat]? = some v := by
  obtain ⟨n, rfl⟩ := Int.eq_ofNat_of_zero_le h0
  have hn : n < xs.length := by omega
  have e : xs[n]? = some xs[n] := List.getElem?_eq_getElem hn
  exact ⟨_, atI_nat e, e⟩
theorem int_of_get {ns : List Int} {j : Nat} {v : V} (h : (ns.map V.int)[j]? = some v) : ∃ z, v = V.int z := by
  rw [List.getElem?_map] at h
  cases e : ns[j]? with
  | none => rw [e] at h; cases h
  | some z => rw [e] at h; exact ⟨z, (Option.some.inj h).symm⟩
/-- the bag stands at b -/
def Bag (H : Hp) (b : Addr) : Prop := ∃ c m : Int, H b = some (.lst [.int c, .int m])
/-- from H to H' the bag at b may have changed, and there may be new things -/
structure Stp (b : Addr) (H H' : Hp) : Prop where
  bag : Bag H' b
  keep : SameBut b H H'
theorem Stp.trans {b : Addr} {H H1 H2 : Hp} (x : Stp b H H1) (y : Stp b H1 H2) : Stp b H H2 := ⟨y.bag, x.keep.trans y.keep⟩
theorem Stp.new {b p : Addr} {H H1 : Hp} (x : Stp b H H1) (h : H1 p = none) (o : HO) : Stp b H (upd H1 p o) := by
  obtain ⟨c, m, e⟩ := x.bag
  exact ⟨⟨c, m, by rw [upd_ne (ne_of_none e h)]; exact e⟩, x.keep.trans (SameBut.of (same_new h o))⟩
theorem Stp.refl {b : Addr} {H : Hp} (h : Bag H b) : Stp b H H := ⟨h, SameBut.refl⟩
theorem Stp.same {b : Addr} {H H1 H2 : Hp} (x : Stp b H H1) (y : Same H1 H2) : Stp b H H2 := by
  obtain ⟨c, m, e⟩ := x.bag
  exact ⟨⟨c, m, y _ _ e⟩, x.keep.trans (SameBut.of y)⟩
/-- take(bag, n): a number from 0 to n - 1 -/
def spTake : Sp := fun vs H Q _ => ∃ (b : Addr) (n : Int), vs = [.ref b, .int n] ∧ Bag H b ∧ 0 < n ∧ n < 1073741824 ∧
  ∀ (r : Int) (H' : Hp), 0 ≤ r → r < n → Stp b H H' → Q (.int r) H'
/-- bag(script, at): a new bag -/
def spBag (K : PySem.W.Frag) : Sp := fun vs H Q _ => ∃ (a : Addr) (ns : List Int) (i : Int), vs = [.ref a, .int i] ∧ SqL K H a (ns.map V.int) ∧ 0 ≤ i ∧ i < 1000 ∧
  ∀ (b : Addr) (H' : Hp), Same H H' → H b = none → Bag H' b → Q (.ref b) H'
section
variable {P : Program} {w : World} {K : PySem.W.Frag} {mg : Str → Option Value} {base : Heap}
theorem d_take (h : Has K mg "_law_take" sTake) (B : Bi mg) : Dfn P w K mg base CX0 1 "_law_take" ["_law_bag_here", "_law_many"] spTake := by
  refine dfn0 h B scTake (fun _ _ _ _ _ _ us hl => match us, hl with | [_, _], _ => rfl) (fun vs H Q E h => ?_) (fun f cv A out s H vs Q E c h => ?_)
  · obtain ⟨b, n, rfl, _⟩ := h
    rfl
  obtain ⟨b, n, rfl, ⟨x, m, hb⟩, n0, n1, q⟩ := h
  refine ⟨_, (pss_cons (ps_if (pt_cmpR op_gt (pe_ix ix_list (pv 0) pe_int (fun _ _ => rfl)) pe_int (nomark _)) (pss_cons (ps_set (i := 2) scTake.nd rfl (Or.inl rfl) (pe_op op_mod (pe_callTy call_int1 (by rfl) c.b.int (by decide +kernel) (pa_cons (pe_ix ix_list (pv 0) pe_int (fun _ _ => rfl)) pa_nil)) (pv 1)))
    (pss_cons (ps_asg (pe_op op_fdiv (pe_ix ix_list (pv 0) pe_int (fun _ _ => rfl)) (pv 1)) (pg_sub (pv 0) pe_int set_list))
    (pss_one (ps_ret (pv 2))))) pss_nil)
    (pss_cons (ps_asg (pe_op op_mod (pe_callTy call_int1 (by rfl) c.b.int (by decide +kernel) (pa_cons (pe_op op_add (pe_op op_mul (pe_ix ix_list (pv 0) pe_int (fun _ _ => rfl)) pe_int) pe_int) pa_nil)) pe_int) (pg_sub (pv 0) pe_int set_list))
    (pss_one (ps_ret (pe_op op_mod (pe_op op_fdiv (pe_op op_mod (pe_callTy call_int1 (by rfl) c.b.int (by decide +kernel) (pa_cons (pe_op op_mul (pe_op op_fdiv (pe_ix ix_list (pv 0) pe_int (fun _ _ => rfl)) pe_int) pe_int) pa_nil)) pe_int) pe_int) (pv 1)))))), ?_⟩
  refine ⟨_, rfl, b, _, _, _, rfl, rfl, SqL.of hb, atI_nat rfl, _, _, rfl, rfl, _, rfl, ?_⟩
  refine ite2 (fun _ => ?_) (fun _ => ?_)
  · refine ⟨_, rfl, b, _, _, _, rfl, rfl, SqL.of hb, atI_nat rfl, .inl ⟨_, rfl, ?_⟩⟩
    refine ⟨_, rfl, _, _, rfl, rfl, n0, ?_⟩
    refine ⟨_, rfl, b, _, _, _, rfl, rfl, SqL.of hb, atI_nat rfl, _, rfl, _, _, rfl, rfl, ⟨n0, n1⟩, ?_⟩
    refine ⟨_, rfl, b, _, _, 0, rfl, rfl, hb, rfl, ?_⟩
    refine ⟨_, rfl, q _ _ (Int.emod_nonneg _ (by omega)) (Int.emod_lt_of_pos _ n0) ⟨⟨_, _, upd_same⟩, sameBut_upd⟩⟩
  · refine ⟨_, rfl, b, _, _, _, rfl, rfl, SqL.of hb, atI_nat rfl, _, _, rfl, rfl, .inr ⟨by decide, by decide⟩, _, _, rfl, rfl, .inl ⟨_, rfl, ?_⟩⟩
    refine ⟨_, _, rfl, rfl, (by show (0 : Int) < 2147483629; decide), ?_⟩
    refine ⟨_, rfl, b, _, _, 1, rfl, rfl, hb, rfl, ?_⟩
    refine ⟨_, rfl, b, _, _, _, rfl, rfl, SqL.of upd_same, atI_nat rfl, _, _, rfl, rfl, ⟨by decide, by decide⟩, _, _, rfl, rfl, .inr ⟨by decide, by decide⟩, .inl ⟨_, rfl, ?_⟩⟩
    refine ⟨_, _, rfl, rfl, (by show (0 : Int) < 2147483587; decide), _, _, rfl, rfl, ⟨by decide, by decide⟩, _, rfl, _, _, rfl, rfl, n0, ?_⟩
    exact q _ _ (Int.emod_nonneg _ (by omega)) (Int.emod_lt_of_pos _ n0) ⟨⟨_, _, upd_same⟩, sameBut_upd⟩
theorem d_bag (h : Has K mg "_law_bag" sBag) (B : Bi mg) : Dfn P w K mg base CX0 1 "_law_bag" ["_law_script", "_law_at"] (spBag K) := by
  refine dfn0 h B scBag (fun _ _ _ _ _ _ us hl => match us, hl with | [_, _], _ => rfl) (fun vs H Q E h => ?_) (fun f cv A out s H vs Q E c h => ?_)
  · obtain ⟨a, ns, i, rfl, _⟩ := h
    rfl
  obtain ⟨a, ns, i, rfl, hS, i0, i1, q⟩ := h
  refine ⟨_, (pss_cons (ps_par (i := 2) (j := 3) rfl scBag.nd rfl rfl (by decide) rfl rfl (pa_cons (pe_ifExp (pt_cmpR op_lt (pv 1) (pe_callB call_len_seq (by rfl) c.b.len PySem.boot_len (pa_cons (pv 0) pa_nil)) (nomark _)) (pe_callB call_abs (by rfl) c.b.abs (by decide +kernel) (pa_cons (pe_ix ix_list (pv 0) (pv 1) (fun _ _ => rfl)) pa_nil)) pe_int) (pa_cons (pe_op op_add (pe_op op_mul pe_int (pv 1)) pe_int) pa_nil)) (by rfl))
    (pss_cons (ps_for PassesOwn.never rfl (pi_enum (by rfl) c.b.enumerate (pa_cons (pe_slice sl_list (pv 0) po_none (po_some pe_int)) pa_nil)) (pg_tup rfl (pgs_cons (pg_name (i := 4) scBag.nd rfl (Or.inl rfl)) (pgs_cons (pg_name (i := 5) scBag.nd rfl (Or.inl rfl)) pgs_nil)))
    (pss_one (ps_set (i := 3) scBag.nd rfl (Or.inl rfl) (pe_op op_mod (pe_callTy call_int1 (by rfl) c.b.int (by decide +kernel) (pa_cons (pe_op op_add (pe_op op_add (pe_op op_mul (pv 3) pe_int) (pe_op op_mod (pe_callTy call_int1 (by rfl) c.b.int (by decide +kernel) (pa_cons (pv 5) pa_nil)) pe_int)) (pe_op op_mul pe_int (pv 4))) pa_nil)) pe_int))))
    (pss_one (ps_ret (pe_lst (pa_cons (pe_ifExp (pt_cmpR op_ge (pv 2) (pe_op op_pow pe_int pe_int) (nomark _)) (pv 2) pe_int) (pa_cons (pv 3) pa_nil))))))), ?_⟩
  have hl : (ns.map V.int).length = ns.length := List.length_map _
  refine ⟨_, rfl, _, rfl, a, _, rfl, .inl hS, _, _, rfl, rfl, _, rfl, ?_⟩
  refine ite2 (fun lt => ?one) (fun _ => ?two)
  case' one =>
    have lt' : i < (((ns.map V.int).length : Nat) : Int) := of_decide_eq_true lt
    obtain ⟨y, at_i, e2⟩ := atI_of i0 lt'
    obtain ⟨z, rfl⟩ := int_of_get e2
    refine ⟨_, rfl, _, rfl, a, _, _, _, rfl, rfl, hS, at_i, _, rfl, ?_⟩
  all_goals
    refine ⟨_, rfl, _, _, rfl, rfl, .inl ⟨by decide, by decide⟩, _, _, rfl, rfl, _, _, rfl, ?_⟩
    refine ⟨_, rfl, _, rfl, a, _, rfl, hS, fun p hp => ?_⟩
    have sp : Same H (upd H p (.lst (cutV (ns.map V.int) none (some 63)))) := same_new hp _
    refine ⟨p, _, rfl, SqL.of upd_same, ?_⟩
    refine for_it (walk_enum (K := K) (a := p) (xs := cutV (ns.map V.int) none (some 63)))
      (fun _ σ H' => ∃ (x m : Int) (u v : Option V), σ = [some (.ref a), some (.int i), some (.int x), some (.int m), u, v] ∧ Same (upd H p (.lst (cutV (ns.map V.int) none (some 63)))) H')
      ⟨_, _, none, none, rfl, Same.refl _⟩ (fun _ σ H' _ ⟨_, _, _, _, _, sm⟩ => sm.seq (SqL.of upd_same)) ?_ ?_
    · rintro t y σ H1 H2 ht ⟨x, m, u, v, rfl, sm⟩ ⟨T, y1, y2, rfl, hT, rfl, e1, e2⟩
      cases e1
      obtain ⟨j, e3⟩ := cutV_get e2
      obtain ⟨z, rfl⟩ := int_of_get e3
      refine ⟨T, _, rfl, SqT.of upd_same, rfl, _, _, rfl, _, _, rfl, rfl, ?_⟩
      refine ⟨_, rfl, _, _, rfl, rfl, .inr ⟨by decide, by decide⟩, _, rfl, .inl ⟨_, rfl, ?_⟩⟩
      refine ⟨_, _, rfl, rfl, (by show (0 : Int) < 2147483629; decide), _, _, rfl, rfl, _, rfl, _, _, rfl, rfl, .inl ⟨by decide, by decide⟩, _, _, rfl, rfl, .inl ⟨_, rfl, ?_⟩⟩
      refine ⟨_, _, rfl, rfl, (by show (0 : Int) < 2147483647; decide), ?_⟩
      exact ⟨_, _, _, _, rfl, sm.trans (same_new hT _)⟩
    · rintro σ H1 ⟨x, m, u, v, rfl, sm⟩
      refine ⟨_, rfl, _, _, rfl, rfl, ⟨by decide, by decide, by decide⟩, _, _, rfl, rfl, _, rfl, ?_⟩
      refine ite2 (fun _ => ?_) (fun _ => ?_)
      · refine ⟨_, rfl, _, rfl, (by show 2 ≤ sizeLine; decide), fun b hb => ?_⟩
        exact q b _ (sp.trans (sm.trans (same_new hb _))) (sp.free (sm.free hb)) ⟨_, _, upd_same⟩
      · refine ⟨_, rfl, (by show 2 ≤ sizeLine; decide), fun b hb => ?_⟩
        exact q b _ (sp.trans (sm.trans (same_new hb _))) (sp.free (sm.free hb)) ⟨_, _, upd_same⟩
end
end Tx

/-! ## Values: nothing, texts, lists; their sizes -/
namespace Tx
open PySem PySem.Spec PyProof.Rows L2
/-- letters a to z alone -/
def ltr (x : Str) : Bool := x.cps.toList.all fun c => decide (97 ≤ c ∧ c ≤ 122)
mutual
def isVal : PyData → Bool
  | .none => true
  | .str x => ltr x
  | .list xs => isValAll xs
  | _ => false
def isValAll : List PyData → Bool
  | [] => true
  | x :: xs => isVal x && isValAll xs
end
mutual
def szD : PyData → Nat
  | .str x => 1 + x.length
  | .list xs => 1 + szAll xs
  | _ => 1
def szAll : List PyData → Nat
  | [] => 0
  | x :: xs => szD x + szAll xs
end
theorem isValAll_iff : ∀ {xs : List PyData}, isValAll xs = true ↔ ∀ d ∈ xs, isVal d = true
  | [] => by simp [isValAll]
  | x :: xs => by simp [isValAll, isValAll_iff (xs := xs)]
theorem szAll_append : ∀ (xs ys : List PyData), szAll (xs ++ ys) = szAll xs + szAll ys
  | [], ys => by simp [szAll]
  | x :: xs, ys => by simp only [List.cons_append, szAll, szAll_append xs ys]; omega
theorem szAll_eq : ∀ xs : List PyData, szAll xs = (xs.map szD).sum
  | [] => rfl
  | x :: xs => by simp only [szAll, List.map_cons, List.sum_cons, szAll_eq xs]
theorem szD_pos : ∀ d : PyData, 1 ≤ szD d
  | .none => by simp [szD]
  | .bool _ => by simp [szD]
  | .int _ => by simp [szD]
  | .str _ => by simp [szD]
  | .list _ => by simp [szD]
  | .tuple _ => by simp [szD]
  | .dict _ => by simp [szD]
theorem len_le_szAll : ∀ xs : List PyData, xs.length ≤ szAll xs
  | [] => by simp [szAll]
  | x :: xs => by
    have := len_le_szAll xs
    have := szD_pos x
    simp only [szAll, List.length_cons]
    omega
theorem szD_mem : ∀ {xs : List PyData} {d : PyData}, d ∈ xs → szD d ≤ szAll xs
  | [], d, h => by simp at h
  | x :: xs, d, h => by
    simp only [szAll]
    cases h with
    | head => omega
    | tail _ h => have := szD_mem h; omega
theorem szAll_le {B : Nat} : ∀ {xs : List PyData}, (∀ d ∈ xs, szD d ≤ B) → szAll xs ≤ B * xs.length
  | [], _ => by simp [szAll]
  | x :: xs, h => by
    have h1 := h x List.mem_cons_self
    have h2 := szAll_le (B := B) (xs := xs) fun d hd => h d (List.mem_cons_of_mem _ hd)
    simp only [szAll, List.length_cons, Nat.mul_add, Nat.mul_one]
    omega
mutual
theorem val_fine : ∀ d : PyData, isVal d = true → fine d = true
  | .none, _ => rfl
  | .str x, h => by
    simp only [isVal, ltr, List.all_eq_true, decide_eq_true_eq] at h
    simp only [fine, List.all_eq_true, decide_eq_true_eq]
    intro c hc
    have := h c hc
    omega
  | .list xs, h => by simp only [isVal] at h; simp only [fine]; exact valAll_fine xs h
  | .bool _, h => by simp [isVal] at h
  | .int _, h => by simp [isVal] at h
  | .tuple _, h => by simp [isVal] at h
  | .dict _, h => by simp [isVal] at h
theorem valAll_fine : ∀ xs : List PyData, isValAll xs = true → fineAll xs = true
  | [], _ => rfl
  | x :: xs, h => by
    simp only [isValAll, Bool.and_eq_true] at h
    simp only [fineAll, val_fine x h.1, valAll_fine xs h.2, Bool.and_self]
end
mutual
theorem val_wt : ∀ d : PyData, isVal d = true → wt d + 2 ≤ 12 * szD d
  | .none, _ => by simp [wt, szD]
  | .str x, _ => by simp only [wt, szD]; omega
  | .list xs, h => by
    simp only [isVal] at h
    have := valAll_wt xs h
    simp only [wt, szD]
    omega
  | .bool _, h => by simp [isVal] at h
  | .int _, h => by simp [isVal] at h
  | .tuple _, h => by simp [isVal] at h
  | .dict _, h => by simp [isVal] at h
theorem valAll_wt : ∀ xs : List PyData, isValAll xs = true → wtAll xs ≤ 12 * szAll xs
  | [], _ => by simp [wtAll, szAll]
  | x :: xs, h => by
    simp only [isValAll, Bool.and_eq_true] at h
    have h1 := val_wt x h.1
    have h2 := valAll_wt xs h.2
    simp only [wtAll, szAll]
    omega
end
/-- a value of at most such a depth and size -/
structure Val (n m : Nat) (d : PyData) : Prop where
  val : isVal d = true
  deep : d.depth ≤ n
  size : szD d ≤ m
theorem Val.mono {n m n' m' : Nat} {d : PyData} (h : Val n m d) (h1 : n ≤ n') (h2 : m ≤ m') : Val n' m' d := ⟨h.val, Nat.le_trans h.deep h1, Nat.le_trans h.size h2⟩
theorem Val.ok {n m : Nat} {d : PyData} (h : Val n m d) (hn : n ≤ 60) (hm : m ≤ 1000000) : Ok d := by
  have h1 := val_wt d h.val
  have h2 := h.size
  exact ⟨val_fine d h.val, Nat.le_trans h.deep hn, by omega⟩
theorem Val.item {n m : Nat} {ds : List PyData} (h : Val n m (.list ds)) {d : PyData} (hd : d ∈ ds) : Val (n - 1) (m - 1) d := by
  have hv := h.val
  have hn := h.deep
  have hm := h.size
  simp only [isVal] at hv
  simp only [PyData.depth] at hn
  simp only [szD] at hm
  have := depth_mem hd
  have := szD_mem hd
  exact ⟨isValAll_iff.mp hv d hd, by omega, by omega⟩
/-- what is at hand can be read in J; the bag at b is none of it; from H to H' the bag may have changed, J has grown to J' by new things -/
structure Gro (b : Addr) (J H J' H' : Hp) : Prop where
  st : Stp b H H'
  jj : Same J J'
  jh : Same J' H'
  fr : ∀ a, H a ≠ none → J a = none → J' a = none
section
variable {b : Addr} {J J1 J2 H H1 H2 : Hp}
theorem Stp.gro (h : Stp b H H1) (hb : J b = none) (s : Same J H) : Gro b J H J H1 :=
  ⟨h, Same.refl _, fun a o e => h.keep a o (fun z => by rw [z, hb] at e; cases e) (s a o e), fun _ _ n => n⟩
theorem Gro.refl (h : Bag H b) (s : Same J H) : Gro b J H J H := ⟨Stp.refl h, Same.refl _, s, fun _ _ n => n⟩
theorem Gro.noBag (g : Gro b J H J1 H1) (hB : Bag H b) (hb : J b = none) : J1 b = none := by
  obtain ⟨c, m, e⟩ := hB
  exact g.fr b (by rw [e]; simp) hb
theorem Stp.there (h : Stp b H H1) (hB : Bag H b) {a : Addr} (n : H a ≠ none) : H1 a ≠ none := by
  by_cases e : a = b
  · subst e
    obtain ⟨c, m, e⟩ := h.bag
    rw [e]; simp
  · cases q : H a with
    | none => exact absurd q n
    | some o => rw [h.keep a o e q]; simp
theorem Gro.trans (g : Gro b J H J1 H1) (k : Gro b J1 H1 J2 H2) (hB : Bag H b) : Gro b J H J2 H2 :=
  ⟨g.st.trans k.st, g.jj.trans k.jj, k.jh, fun a n e => k.fr a (g.st.there hB n) (g.fr a n e)⟩
/-- a further step that leaves what is at hand -/
theorem Gro.step (g : Gro b J H J1 H1) (h : Stp b H1 H2) (hB : Bag H b) (hb : J b = none) : Gro b J H J1 H2 := g.trans (h.gro (g.noBag hB hb) g.jh) hB
/-- a new thing -/
theorem Gro.new (g : Gro b J H J1 H1) {p : Addr} (hp : H1 p = none) (o : HO) : Gro b J H J1 (upd H1 p o) :=
  ⟨g.st.new hp o, g.jj, g.jh.trans (same_new hp o), g.fr⟩
/-- a new thing that is at hand -/
theorem Gro.add (g : Gro b J H J1 H1) (hB : Bag H b) {p : Addr} (hp : H1 p = none) (o : HO) : Gro b J H (upd J1 p o) (upd H1 p o) := by
  have hj : J1 p = none := g.jh.free hp
  refine ⟨g.st.new hp o, g.jj.trans (same_new hj o), fun a u e => ?_, fun a n e => ?_⟩
  · by_cases z : a = p
    · subst z; rw [upd_same] at e ⊢; exact e
    · rw [upd_ne z] at e ⊢; exact g.jh a u e
  · have z : a ≠ p := fun z => g.st.there hB n (by rw [z]; exact hp)
    rw [upd_ne z]
    exact g.fr a n e
/-- a thing of one's own, new since H, comes to hand -/
theorem Gro.own (g : Gro b J H J1 H1) {p : Addr} {o : HO} (hp : H1 p = some o) (hn : H p = none) (hj : J1 p = none) : Gro b J H (upd J1 p o) H1 := by
  refine ⟨g.st, g.jj.trans (same_new hj o), fun a u e => ?_, fun a n e => ?_⟩
  · by_cases z : a = p
    · subst z; rw [upd_same] at e; rw [← e]; exact hp
    · rw [upd_ne z] at e; exact g.jh a u e
  · have z : a ≠ p := fun z => n (by rw [z]; exact hn)
    rw [upd_ne z]
    exact g.fr a n e
theorem Stp.free (h : Stp b H H1) (hB : Bag H b) {r : Addr} (n : H1 r = none) : H r = none := by
  cases q : H r with
  | none => rfl
  | some o => exact absurd n (h.there hB (by rw [q]; simp))
theorem Stp.ne (h : Stp b H H1) {r : Addr} (n : H1 r = none) : r ≠ b := fun z => by
  obtain ⟨_, _, e⟩ := h.bag
  rw [← z, n] at e
  cases e
theorem same_upd {J H : Hp} {r : Addr} {o : HO} (s : Same J H) (n : J r = none) : Same J (upd H r o) := fun a u e => by
  rw [upd_ne (ne_of_none e n)]
  exact s a u e
/-- a thing of one's own is changed -/
theorem Gro.mut (g : Gro b J H J1 H1) {r : Addr} (hr : H r = none) (hj : J1 r = none) (rb : r ≠ b) (o : HO) : Gro b J H J1 (upd H1 r o) := by
  obtain ⟨c, m, e⟩ := g.st.bag
  exact ⟨⟨⟨c, m, by rw [upd_ne (Ne.symm rb)]; exact e⟩, fun a u n z => by rw [upd_ne (ne_of_none z hr)]; exact g.st.keep a u n z⟩, g.jj, same_upd g.jh hj, g.fr⟩
theorem Gro.same (g : Gro b J H J1 H1) (s : Same H1 H2) : Gro b J H J1 H2 := ⟨g.st.same s, g.jj, g.jh.trans s, g.fr⟩
end
end Tx

namespace Tx
open PySem PySem.Spec PyProof.Rows L2
/-! ## Further rules: list(text); errors with a field of their own -/
theorem vals_of : ∀ (xs : List V) (us : List Value), xs.length = us.length → (∀ (j : Nat) (x : V) (u : Value), xs[j]? = some x → us[j]? = some u → RelV x u) → Vals xs us
  | [], [], _, _ => .nil
  | [], _ :: _, e, _ => by simp at e
  | _ :: _, [], e, _ => by simp at e
  | x :: xs, u :: us, e, h => .cons (h 0 x u rfl rfl) (vals_of xs us (by simpa using e) fun j y w h1 h2 => h (j + 1) y w (by simpa using h1) (by simpa using h2))
/-- the letters of a text, as texts -/
def sgn (z : Str) : List V := z.cps.toList.map fun c => V.str ⟨#[c]⟩
theorem call_listS {X : Cx} (hc : X.calm = true) : CallR X (.type "list") (fun xs H Q => ∃ z : Str, xs = [.str z] ∧ z.length ≤ sizeLine ∧ ∀ l, H l = none → Q (.ref l) (upd H l (.lst (sgn z)))) := by
  intro pins s σ H xs us Q I rel ask
  obtain ⟨z, rfl, hz, q⟩ := ask
  obtain ⟨u, rfl, r1⟩ := vals1 rel
  obtain ⟨t, rfl⟩ := r1
  refine call_list_str (I.ok.hd hc) z t (hn := hz) fun h' tk acc n keep new its => ?_
  have hl : acc.toList.length = z.cps.toList.length := by rw [Array.length_toList, Array.length_toList]; exact its.1
  refine ⟨.ref s.heap.objs.size, _, I.laid (t' := tk) (o := .lst (sgn z)) keep (Nat.le_refl _) ⟨?_, acc.toList, n, vals_of _ _ ?_ ?_, ?_⟩, rfl, q _ (I.hok.fresh (Nat.le_refl _))⟩
  · rw [sgn, List.length_map, Array.length_toList]; exact hz
  · rw [sgn, List.length_map, hl]
  · intro j x u hx hu
    obtain ⟨c, w, hc, rfl⟩ := its.2 j u (by simpa using hu)
    rw [sgn, List.getElem?_map, Array.getElem?_toList, hc] at hx
    cases hx
    exact ⟨w, rfl⟩
  · simpa using new
/-- isinstance(e, c), e the error that the suite holds, with or without fields -/
def rIsX (K : PySem.W.Frag) (D a : Addr) (cls : Value) (d : Option Addr) : List V → Hp → VK → Prop := fun xs H Q => ∃ (c : V) (cv : Value) (b : Bool), xs = [.ref a, c] ∧ cls = .ref D ∧ ClsV c cv ∧
  PySem.W.kitOne K (.ref D) cv = some b ∧ (∀ dd, d = some dd → ∃ fs, H dd = some (.xd fs)) ∧ Q (.bl b) H
def rIsXT (K : PySem.W.Frag) (D a : Addr) (cls : Value) (d : Option Addr) : List V → Hp → VK → Prop := fun xs H Q => ∃ (tp : Addr) (cs : List V) (us : List Value) (b : Bool), xs = [.ref a, .ref tp] ∧ cls = .ref D ∧ H tp = some (.tup cs) ∧
  Paired ClsV cs us ∧ PySem.W.kitAny K (.ref D) us = some b ∧ (∀ dd, d = some dd → ∃ fs, H dd = some (.xd fs)) ∧ Q (.bl b) H
section
variable {X : Cx} {a D : Addr} {oe : Obj} {cls : Value} {d : Option Addr} {pn : List (Addr × Obj)}
theorem inst_of {pins : List (Addr × Obj)} {σ : L2.St} {H : Hp} {s : Shared} (hz : Zc cls d oe) (hf : ∃ vs, oe.data = .fields vs) (I : Inv (X.suite a ((a, oe) :: pn)) pins σ H s) (ec : cls = .ref D)
    (hd : ∀ dd, d = some dd → ∃ fs, H dd = some (.xd fs)) : ∃ od, PySem.W.InstAt s.heap a oe D od := by
  obtain ⟨hg, _⟩ := I.pin (a, oe) (List.mem_append.mpr (.inl List.mem_cons_self))
  obtain ⟨vs, hv⟩ := hf
  have no : PySem.W.notCls oe = true := by unfold PySem.W.notCls; rw [hv] <;> rfl
  cases d with
  | none => exact ⟨none, ⟨hg, hz.1.trans ec, no, by rw [hz.2]; trivial⟩⟩
  | some dd =>
    obtain ⟨fs, e⟩ := hd dd rfl
    have ok : ObjOk X.prog X.w H s.heap dd (.xd fs) := I.hok dd _ e
    obtain ⟨mA, ⟨o, es, ep, ho, _⟩, _⟩ := ok
    exact ⟨some o, ⟨hg, hz.1.trans ec, no, by rw [hz.2]; exact ho⟩⟩
theorem kit_exc (C : ExcC X.K D) {od : Option Obj} : PySem.W.KitX X.K (.ref a) (.ref D) (fun h => PySem.W.InstAt h a oe D od) := by
  have hc : (PySem.W.clsIn X.K D).isSome = true := by
    obtain ⟨cd, e, _⟩ := PySem.W.any_some C.hd
    rw [e]; rfl
  exact PySem.W.kitx_exc hc C.hg C.hk C.hs C.ha C.hn C.ht C.hm
theorem call_isX (C : ExcC X.K D) (hz : Zc cls d oe) (hf : ∃ vs, oe.data = .fields vs) : CallR (X.suite a ((a, oe) :: pn)) (.builtin "isinstance") (rIsX X.K D a cls d) := by
  intro pins s σ H xs us Q I rel ask
  obtain ⟨c, cv, b, rfl, ec, kc, e, hd, q⟩ := ask
  obtain ⟨u1, u2, rfl, r1, r2⟩ := vals2 rel
  cases r1
  have e2 := kc.eq r2
  subst e2
  obtain ⟨od, J⟩ := inst_of hz hf I ec hd
  exact PySem.W.kia_one (kit_exc C) I.kIn J e (fun z => nomatch z) fun tk => ⟨.bl b, H, I.tok tk, rfl, q⟩
theorem call_isXT (C : ExcC X.K D) (hz : Zc cls d oe) (hf : ∃ vs, oe.data = .fields vs) : CallR (X.suite a ((a, oe) :: pn)) (.builtin "isinstance") (rIsXT X.K D a cls d) := by
  intro pins s σ H xs us Q I rel ask
  obtain ⟨tp, cs, ws, b, rfl, ec, hT, kc, e, hd, q⟩ := ask
  obtain ⟨u1, u2, rfl, r1, r2⟩ := vals2 rel
  cases r1
  cases (show u2 = Value.ref tp from r2)
  obtain ⟨_, its, rv, o, h1, h2, n, h3⟩ := (show ObjOk X.prog X.w H s.heap tp (.tup cs) from I.hok tp _ hT)
  have e3 := ClsV.all kc rv
  subst e3
  obtain ⟨oc, od, dt, sl⟩ := o
  simp only at h2 h3
  subst h2 h3
  obtain ⟨od, J⟩ := inst_of hz hf I ec hd
  exact PySem.W.kia_tup (kit_exc C) I.kIn J h1 e (fun z => nomatch z) fun tk => ⟨.bl b, H, I.tok tk, rfl, q⟩
end
/-- self.f = f, of a new error of the class at C -/
def spInit1 (C : Addr) (f : Str) : Sp := fun vs H Q _ => ∃ (a : Addr) (v : V), vs = [.ref a, v] ∧ H a = some (exo a C none) ∧
  ∀ dx, H dx = none → dx ≠ a → Q .non (upd (upd H dx (exd dx [(f, v)])) a (exo a C (some dx)))
/-- an error class with one field f: what the written part says of it -/
structure Err1 (P : Program) (w : World) (K : PySem.W.Frag) (mg : Str → Option Value) (base : Heap) (x f : Str) (C : Addr) : Prop where
  oex : OexC K C
  exc : ExcC K C
  gC : mg x = some (.ref C)
  noF : PySem.W.findIn K (.ref C) f = some none
  self : PySem.W.exmOne K (.ref C) (.ref C) = some true
  ini : ∃ (fI : Addr) (fd : FuncData), PySem.W.findIn K (.ref C) "__init__" = some (some (.ref fI)) ∧ PySem.W.typeIn K (.ref fI) = some (.type "function") ∧
    FnOk P w K mg base CX0 1 fI fd ["self", f] (spInit1 C f) ∧ Binds K fd ["self", f] []
theorem Err1.xf {P : Program} {w : World} {K : PySem.W.Frag} {mg : Str → Option Value} {base : Heap} {x f : Str} {C : Addr} (T : Err1 P w K mg base x f C) : XfC K C := ⟨T.exc.hg, T.exc.hk, T.exc.hs, T.exc.hd⟩
section
variable {X : Cx} {x f : Str} {C : Addr} {k : Nat} {W : WX} {e : Expr} {ta : TA} {p pos pos2 : Pos}
/-- raise x(e) -/
def tErr1 (C : Addr) (f : Str) (W : WX) (ta : TA) : TS := fun _ σ H => tMkO C (spInit1 C f) [] ta σ H fun cls d H' => W cls d σ H'
theorem ps_err1 (T : Err1 X.prog X.w X.K X.mg X.base x f C) (calm : X.calm = true) (room : Room (k + 2) X.A) (tk : Takes X W) (args : PA X [e] ta) (gl : Gl X x)
    (nd : (x == ("__debug__" : Str)) = false := by decide) (plain : starEach (e :: []) X.env = (false, eval e X.env) :: starEach [] X.env := by rfl) (bare : (backTo pos (starEach [] X.env)).any (·.1) = false := by rfl) :
    PS X (.Raise (some (.Call (.Name x p) [e] [] pos)) none pos2) (tErr1 C f W ta) := by
  obtain ⟨fI, fd, iC, tI, F, bd⟩ := T.ini
  exact ps_raise calm tk (pmk_oex T.oex iC tI F (room.mono (by omega)) bd .nil (fun _ _ _ _ _ _ _ h => False.elim h) gl T.gC args nd plain bare)
/-- what is left to show once the field is known -/
theorem err1 {v : V} {H : Hp} {Q : XK} (h : ∀ d, H d = none → Q (.ref C) (some d) (upd H d (.xd [(f, v)]))) : ([v] : List V).length ≤ 1000 ∧ ∀ a, H a = none → spInit1 C f (.ref a :: ([v] ++ [])) (upd H a (exo a C none))
    (fun u H2 => u = .non ∧ ∃ (d : Addr) (fs : List (Str × V)), H2 a = some (exo a C (some d)) ∧ H2 d = some (exd d fs) ∧ H d = none ∧ Q (.ref C) (some d) (upd (del H2 a) d (.xd fs))) (fun _ _ _ => False) := by
  refine ⟨(by show 1 ≤ 1000; decide), fun a ha => ⟨a, v, rfl, upd_same, fun dx hx ne => ⟨rfl, dx, [(f, v)], upd_same, ?_, ?_, ?_⟩⟩⟩
  · rw [upd_ne ne, upd_same]
  · rw [upd_ne ne] at hx
    exact hx
  · rw [upd_ne ne] at hx
    have e : upd (del (upd (upd (upd H a (exo a C none)) dx (exd dx [(f, v)])) a (exo a C (some dx))) a) dx (.xd [(f, v)]) = upd H dx (.xd [(f, v)]) := by
      funext b
      by_cases h1 : b = dx
      · rw [h1, upd_same, upd_same]
      · rw [upd_ne h1, upd_ne h1]
        by_cases h2 : b = a
        · rw [h2, del_same, ha]
        · rw [del_ne h2, upd_ne h2, upd_ne h1, upd_ne h2]
    rw [e]
    exact h dx hx
/-- f(e, ..), f a def of the module that may raise, where W wishes of what is raised -/
theorem pe_dS {j : Nat} {ps : List Str} {sp : Sp} {E : L2.St → XK} {es : List Expr} {t : TA} (D : Dfn X.prog X.w X.K X.mg X.base (L2.CX X.prog X.w) j x ps sp) (c : Ct X.mg X.A k) (h : j ≤ k) (gl : Gl X x)
    (out : ∀ σ, PassesAt (L2.CX X.prog X.w) X σ (E σ)) (args : PA X (e :: es) t) (nd : (x == ("__debug__" : Str)) = false := by decide)
    (plain : starEach (e :: es) X.env = (false, eval e X.env) :: starEach es X.env := by rfl) (bare : (backTo pos (starEach es X.env)).any (·.1) = false := by rfl) :
    PE X (.Call (.Name x p) (e :: es) [] pos) (tCallS sp E t) := by
  obtain ⟨f, fd, F, m, kp, bd⟩ := D
  constructor
  intro pins s σ H Q I ask
  refine wpAny_Call_Name_kw (ld_glob I gl m ?_ nd)
  refine PySem.W.callWith_K (h₀ := X.base) I.ok.mod.kin kp (thn (args.run pos pins s σ H _ I ask) ?_) plain bare
  rintro us s1 ⟨vs, H1, J, rel, q⟩
  refine ⟨J.kIn, ?_⟩
  have full : (us ++ []).length = ps.length := by rw [List.append_nil, ← rel.length]; exact F.len _ _ _ _ q
  have b2 := bd s1 us J.kIn full
  rw [List.append_nil] at b2
  refine wpAny_call (codeAny_mono (F.run X.A X.stack s1 H1 ⟨us, []⟩ us vs Q (E σ) (c.r.mono h) c.g J.env0 b2 rel q) ?_)
  intro r s2 got
  match r, got with
  | .ok (.ret u), got => exact J.after got
  | .ok .next, got => exact False.elim got
  | .ok .brk, got => exact False.elim got
  | .ok .cont, got => exact False.elim got
  | .error er, got => exact out σ pins H1 s1 er s2 J got
end
/-- from what the top has written to an error class with a field -/
theorem err1_of {P : Program} {w : World} {K : PySem.W.Frag} {mg : Str → Option Value} {base h : Heap} {x f : Str} {C fI N : Addr} {fd : FuncData} {nm q : Str} {bs bm sub : List Value} {sn : List Str} {ab : Bool} {col : Option Bool} {dd : Option Addr} {m0 m1 m2 m3 m5 : Option Value}
    (X : K.In h) (G : h.Ns mainGlobals mg) (aC : PySem.W.nsIn K mainGlobals x = some (some (.ref C)))
    (xL : K.lookup C = some (excClassObj nm q C N bs bm true sn sub ab col dd m0 m1 m2 m3 m5 "ValueError.__new__")) (vb : PySem.HandSPX.refsVE bm = true)
    (sa : PySem.W.findIn K (.ref C) "__setattr__" = some (some (.builtin "object.__setattr__"))) (ga : PySem.W.findIn K (.ref C) "__getattribute__" = some (some (.builtin "BaseException.__getattribute__")))
    (gg : PySem.W.findIn K (.ref C) "__getattr__" = some none) (nf : PySem.W.findIn K (.ref C) f = some none) (ai : PySem.W.findIn K (.ref C) "__init__" = some (some (.ref fI))) (ti : PySem.W.typeIn K (.ref fI) = some (.type "function"))
    (kC : PySem.W.keepIn K (.ref C) = true) (eC : PySem.W.subIn K (.ref C) (.type "BaseException") = some true) (tC : PySem.W.typeIn K (.ref C) = some (.type "type")) (hC : PySem.W.hasDictIn K C = true)
    (cC : PySem.W.findIn K (.ref C) "__class__" = some (some (.builtin "object.__class__"))) (gC : PySem.W.specialIn K (.builtin "object.__class__") "__get__" = some (some (.builtin "getset_descriptor.__get__")))
    (uC : PySem.W.takesIn K (.builtin "object.__class__") = some true) (oC : PySem.W.mroIn K C (.type "object") = some true) (sC : PySem.W.subIn K (.ref C) (.ref C) = some true)
    (ini : OexC K C → FnOk P w K mg base CX0 1 fI fd ["self", f] (spInit1 C f) ∧ Binds K fd ["self", f] []) : Err1 P w K mg base x f C := by
  have oex : OexC K C := ⟨⟨nm, q, N, bs, bm, sn, sub, ab, col, dd, m0, m1, m2, m3, m5, xL, vb⟩, sa, eC, tC, kC⟩
  exact ⟨oex, ⟨ga, gg, eC, hC, cC, gC, uC, oC⟩, PySem.W.mg_of X G aC, nf, PySem.W.exm_ref eC hC tC sC, fI, fd, ai, ti, (ini oex).1, (ini oex).2⟩
/-- a class of the module -/
structure Cls0 (mg : Str → Option Value) (x : Str) (C : Addr) : Prop where
  gC : mg x = some (.ref C)
theorem cls0_of {K : PySem.W.Frag} {mg : Str → Option Value} {h : Heap} {x : Str} {C : Addr} (X : K.In h) (G : h.Ns mainGlobals mg) (a : PySem.W.nsIn K mainGlobals x = some (some (.ref C))) : Cls0 mg x C := ⟨PySem.W.mg_of X G a⟩
theorem const_of {K : PySem.W.Frag} {mg : Str → Option Value} {h : Heap} {x z : Str} {t : Tok} (X : K.In h) (G : h.Ns mainGlobals mg) (a : PySem.W.nsIn K mainGlobals x = some (some (.str z t))) : ∃ t, mg x = some (.str z t) := ⟨t, PySem.W.mg_of X G a⟩
theorem pe_gcl {X : Cx} {x : Str} {C : Addr} {pos : Pos} (h : X.mg x = some (.ref C)) (gl : Gl X x) (hd : (x == ("__debug__" : Str)) = false := by decide) : PE X (.Name x pos) (tC (.ref C)) := pe_glob gl h rfl hd
theorem pe_gs {X : Cx} {x z : Str} {pos : Pos} (h : ∃ t, X.mg x = some (.str z t)) (gl : Gl X x) (hd : (x == ("__debug__" : Str)) = false := by decide) : PE X (.Name x pos) (tC (.str z)) := by
  obtain ⟨t, e⟩ := h
  exact pe_glob gl e ⟨t, rfl⟩ hd
end Tx

namespace Tx
open PySem PySem.Spec PyProof.Rows L2
/-! ## The first place at which something is no value -/
/-- a place, as a tuple of numbers -/
def plD (p : List Nat) : PyData := .tuple (p.map fun (n : Nat) => PyData.int (n : Int))
mutual
def wrongP : PyData → Option (List Nat)
  | .none => none
  | .str x => if ltr x = true then none else some []
  | .list xs => wrongAll 0 xs
  | _ => some []
def wrongAll (i : Nat) : List PyData → Option (List Nat)
  | [] => none
  | x :: xs => match wrongP x with
    | some p => some (i :: p)
    | none => wrongAll (i + 1) xs
end
def isTxt : PyData → Bool
  | .str x => ltr x
  | _ => false
theorem wrongAll_drop {ds : List PyData} {i : Nat} {d : PyData} (h : ds[i]? = some d) (n : wrongP d = none) (e : wrongAll 0 ds = wrongAll i (ds.drop i)) : wrongAll 0 ds = wrongAll (i + 1) (ds.drop (i + 1)) := by
  have hi : i < ds.length := (List.getElem?_eq_some_iff.mp h).1
  rw [e, List.drop_eq_getElem_cons hi]
  have hd : ds[i] = d := by rw [List.getElem?_eq_getElem hi] at h; exact Option.some.inj h
  rw [hd]
  simp only [wrongAll, n]
theorem wrongAll_at {ds : List PyData} {i : Nat} {d : PyData} {p : List Nat} (h : ds[i]? = some d) (n : wrongP d = some p) (e : wrongAll 0 ds = wrongAll i (ds.drop i)) : wrongAll 0 ds = some (i :: p) := by
  have hi : i < ds.length := (List.getElem?_eq_some_iff.mp h).1
  rw [e, List.drop_eq_getElem_cons hi]
  have hd : ds[i] = d := by rw [List.getElem?_eq_getElem hi] at h; exact Option.some.inj h
  rw [hd]
  simp only [wrongAll, n]
mutual
theorem wrong_len : ∀ (d : PyData) (p : List Nat), wrongP d = some p → p.length ≤ d.depth
  | .none, p, h => by simp [wrongP] at h
  | .bool _, p, h => by simp only [wrongP] at h; cases h; simp
  | .int _, p, h => by simp only [wrongP] at h; cases h; simp
  | .tuple _, p, h => by simp only [wrongP] at h; cases h; simp
  | .dict _, p, h => by simp only [wrongP] at h; cases h; simp
  | .str x, p, h => by
    simp only [wrongP] at h
    split at h
    · cases h
    · cases h; simp
  | .list xs, p, h => by
    simp only [wrongP] at h
    have := wrongAll_len xs 0 p h
    simpa only [PyData.depth] using this
theorem wrongAll_len : ∀ (xs : List PyData) (i : Nat) (p : List Nat), wrongAll i xs = some p → p.length ≤ PyData.depthAll xs + 1
  | [], i, p, h => by simp [wrongAll] at h
  | x :: xs, i, p, h => by
    simp only [wrongAll] at h
    simp only [PyData.depthAll]
    cases e : wrongP x with
    | some q =>
      rw [e] at h
      cases h
      have := wrong_len x q e
      simp only [List.length_cons]
      omega
    | none =>
      rw [e] at h
      have := wrongAll_len xs (i + 1) p h
      omega
end
theorem abc_mem (c : Nat) : decide (c ∈ (("abcdefghijklmnopqrstuvwxyz" : Str)).cps.toList) = decide (97 ≤ c ∧ c ≤ 122) := by
  have e : (("abcdefghijklmnopqrstuvwxyz" : Str)).cps.toList = List.range' 97 26 := by decide +kernel
  rw [e]
  by_cases h : 97 ≤ c ∧ c ≤ 122
  · rw [decide_eq_true h, decide_eq_true (List.mem_range'_1.mpr ⟨h.1, by omega⟩)]
  · rw [decide_eq_false h, decide_eq_false fun z => h (by have := List.mem_range'_1.mp z; omega)]
/-- a thing that the texts take: shown well, not too deep -/
structure Thing (n m : Nat) (d : PyData) : Prop where
  fine : fine d = true
  deep : d.depth ≤ n
  wt : wt d ≤ m
theorem Thing.mono {n m n' m' : Nat} {d : PyData} (h : Thing n m d) (h1 : n ≤ n') (h2 : m ≤ m') : Thing n' m' d := ⟨h.fine, Nat.le_trans h.deep h1, Nat.le_trans h.wt h2⟩
theorem Thing.ok {n m : Nat} {d : PyData} (h : Thing n m d) (h1 : n ≤ 60) (h2 : m ≤ 16000000) : Ok d := ⟨h.fine, Nat.le_trans h.deep h1, Nat.le_trans h.wt h2⟩
theorem Val.thing {n m : Nat} {d : PyData} (h : Val n m d) : Thing n (12 * m) d := ⟨val_fine d h.val, h.deep, by have := val_wt d h.val; have := h.size; omega⟩
theorem Thing.item {n m : Nat} {ds : List PyData} (h : Thing n m (.list ds)) {d : PyData} (hd : d ∈ ds) : Thing (n - 1) m d := by
  have h1 := h.fine
  have h2 := h.deep
  have h3 := h.wt
  simp only [Tx.fine] at h1
  simp only [PyData.depth] at h2
  simp only [Tx.wt] at h3
  have := depth_mem hd
  have := wt_mem hd
  exact ⟨fineAll_iff.mp h1 d hd, by omega, by omega⟩
mutual
theorem depth_wt : ∀ d : PyData, Tx.fine d = true → d.depth ≤ Tx.wt d
  | .none, _ => by simp [PyData.depth]
  | .bool _, _ => by simp [PyData.depth]
  | .int _, _ => by simp [PyData.depth]
  | .str _, _ => by simp [PyData.depth]
  | .list xs, h => by
    simp only [Tx.fine] at h
    have := depthAll_wt xs h
    simp only [PyData.depth, Tx.wt]
    omega
  | .tuple xs, h => by
    simp only [Tx.fine] at h
    have := depthAll_wt xs h
    simp only [PyData.depth, Tx.wt]
    omega
  | .dict _, h => by simp [Tx.fine] at h
theorem depthAll_wt : ∀ xs : List PyData, fineAll xs = true → PyData.depthAll xs ≤ wtAll xs
  | [], _ => by simp [PyData.depthAll]
  | x :: xs, h => by
    simp only [fineAll, Bool.and_eq_true] at h
    have := depth_wt x h.1
    have := depthAll_wt xs h.2
    simp only [PyData.depthAll, wtAll]
    omega
end
theorem len_le_wtAll : ∀ xs : List PyData, 2 * xs.length ≤ wtAll xs
  | [] => by simp [wtAll]
  | x :: xs => by
    have := len_le_wtAll xs
    simp only [wtAll, List.length_cons]
    omega
theorem Thing.len {n m : Nat} {ds : List PyData} (h : Thing n m (.list ds)) : 2 * ds.length ≤ m := by
  have h3 := h.wt
  simp only [Tx.wt] at h3
  have := len_le_wtAll ds
  omega
end Tx

namespace Tx
open PySem PySem.Spec PyProof.Rows L2
/-! ## Rules of the kit with the written part named (within a comprehension it must be) -/
section
variable {X : Cx} {K : PySem.W.Frag}
theorem op_catTK (h : X.K = K) : OpR X (binaryOp .Add) (rCatT K) := h ▸ op_catT
theorem op_eqDK (h : X.K = K) (u : X.A.units + 64 < cLine) : OpR X (compareOp .Eq) (rEqD K) := h ▸ op_eqD u
theorem op_neDK (h : X.K = K) (u : X.A.units + 64 < cLine) : OpR X (compareOp .NotEq) (rNeD K) := h ▸ op_neD u
theorem ix_listK (h : X.K = K) : IxR X (rIxL K) := h ▸ ix_list
theorem ix_tupK (h : X.K = K) : IxR X (rIxT K) := h ▸ ix_tup
theorem sl_listK (h : X.K = K) : SlR X (rSlL K) := h ▸ sl_list
theorem sl_tupK (h : X.K = K) : SlR X (rSlT K) := h ▸ sl_tup
theorem call_len_seqK (h : X.K = K) : CallR X (.builtin "len") (fun xs H Q => ∃ p ys, xs = [.ref p] ∧ (SqL K H p ys ∨ SqT K H p ys) ∧ Q (.int ys.length) H) := h ▸ call_len_seq
theorem call_isDK {T : String} (h : X.K = K) : CallR X (.builtin "isinstance") (rIsD K T) := h ▸ call_isD
theorem call_reprK (h : X.K = K) (gd : X.A.guards = some []) (hu : X.A.units + 64 < cLine) : CallR X (.builtin "repr") (rRepr K) := h ▸ call_repr gd hu
theorem op_in_seqK (h : X.K = K) : OpR X (compareOp .In) (rIn K false) := h ▸ op_in_seq
end
/-! ## Data that stays while the things at F are changed -/
def hide (F : List Addr) (H : Hp) : Hp := fun a => if a ∈ F then none else H a
def Dq (K : PySem.W.Frag) (F : List Addr) (H : Hp) (v : V) (d : PyData) : Prop := Dp K (hide F H) v d
def DqAll (K : PySem.W.Frag) (F : List Addr) (H : Hp) (vs : List V) (ds : List PyData) : Prop := DpAll K (hide F H) vs ds
/-- the things at F are there -/
def There (F : List Addr) (H : Hp) : Prop := ∀ a ∈ F, H a ≠ none
section
variable {K : PySem.W.Frag} {F : List Addr} {H H' : Hp} {p : Addr} {o : HO} {v : V} {d : PyData} {vs : List V} {ds : List PyData}
theorem hide_in (h : p ∈ F) : hide F H p = none := if_pos h
theorem hide_out (h : p ∉ F) : hide F H p = H p := if_neg h
theorem hide_le : Same (hide F H) H := fun a o e => by
  unfold hide at e
  split at e
  · cases e
  · exact e
theorem hide_same (s : Same H H') : Same (hide F H) (hide F H') := fun a o e => by
  unfold hide at e ⊢
  split at e
  · cases e
  · rename_i h; rw [if_neg h]; exact s a o e
theorem hide_cons : Same (hide (p :: F) H) (hide F H) := fun a o e => by
  unfold hide at e ⊢
  split at e
  · cases e
  · rename_i h; rw [if_neg fun z => h (List.mem_cons_of_mem _ z)]; exact e
theorem hide_sub {F' : List Addr} (h : ∀ a ∈ F, a ∈ F') : Same (hide F' H) (hide F H) := fun a o e => by
  unfold hide at e ⊢
  split at e
  · cases e
  · rename_i z; rw [if_neg fun y => z (h a y)]; exact e
theorem There.fresh (t : There F H) (h : H p = none) : p ∉ F := fun z => t p z h
theorem There.same (t : There F H) (s : Same H H') : There F H' := fun a h => by
  cases q : H a with
  | none => exact absurd q (t a h)
  | some o => rw [s a o q]; simp
theorem There.upd (t : There F H) : There F (upd H p o) := fun a h => by
  by_cases z : a = p
  · rw [z, upd_same]; simp
  · rw [upd_ne z]; exact t a h
theorem There.cons (t : There F H) (h : H p = some o) : There (p :: F) H := fun a z => by
  cases z with
  | head => rw [h]; simp
  | tail _ z => exact t a z
theorem There.one (h : H p = some o) : There [p] H := fun a z => by rw [List.mem_singleton.mp z, h]; simp
theorem hide_upd (h : p ∉ F) : hide F (upd H p o) = upd (hide F H) p o := by
  funext a
  by_cases z : a = p
  · subst z; rw [hide_out h, upd_same, upd_same]
  · rw [upd_ne z]
    unfold hide
    rw [upd_ne z]
theorem hide_upd_in (h : p ∈ F) : hide F (upd H p o) = hide F H := by
  funext a
  unfold hide
  split
  · rfl
  · rename_i z; rw [upd_ne fun y => z (by rw [y]; exact h)]
theorem hide_mut (h : p ∈ F) : Same (hide F H) (hide F (upd H p o)) := by rw [hide_upd_in h]; exact Same.refl _
theorem Dq.dp (h : Dq K F H v d) : Dp K H v d := dp_mono hide_le d v h
theorem DqAll.dp (h : DqAll K F H vs ds) : DpAll K H vs ds := dpAll_mono hide_le ds vs h
theorem Dq.to (h : Dq K F H v d) (s : Same (hide F H) (hide F H')) : Dq K F H' v d := dp_mono s d v h
theorem DqAll.to (h : DqAll K F H vs ds) (s : Same (hide F H) (hide F H')) : DqAll K F H' vs ds := dpAll_mono s ds vs h
theorem Dq.same (h : Dq K F H v d) (s : Same H H') : Dq K F H' v d := h.to (hide_same s)
theorem DqAll.same (h : DqAll K F H vs ds) (s : Same H H') : DqAll K F H' vs ds := h.to (hide_same s)
theorem Dq.less (h : Dq K (p :: F) H v d) : Dq K F H v d := dp_mono hide_cons d v h
theorem DqAll.less (h : DqAll K (p :: F) H vs ds) : DqAll K F H vs ds := dpAll_mono hide_cons ds vs h
/-- a further thing is guarded that is new -/
theorem Dq.more (h : Dq K F H v d) (n : H p = none) : Dq K (p :: F) H v d := dp_mono (fun a o e => by
  have z : a ≠ p := fun z => by rw [z] at e; have := hide_le p o e; rw [n] at this; cases this
  unfold hide at e ⊢
  split at e
  · cases e
  · rename_i y; rw [if_neg fun q => by cases q with | head => exact z rfl | tail _ q => exact y q]; exact e) d v h
theorem DqAll.more (h : DqAll K F H vs ds) (n : H p = none) : DqAll K (p :: F) H vs ds := dpAll_mono (fun a o e => by
  have z : a ≠ p := fun z => by rw [z] at e; have := hide_le p o e; rw [n] at this; cases this
  unfold hide at e ⊢
  split at e
  · cases e
  · rename_i y; rw [if_neg fun q => by cases q with | head => exact z rfl | tail _ q => exact y q]; exact e) ds vs h
/-- a list (a tuple) of one's own -/
theorem Dq.lst (n : p ∉ F) (e : H p = some (.lst vs)) (h : DqAll K (p :: F) H vs ds) : Dq K F H (.ref p) (.list ds) := L2.Dp.lst (SqL.of (by rw [hide_out n]; exact e)) h.less
theorem Dq.tup (n : p ∉ F) (e : H p = some (.tup vs)) (h : DqAll K F H vs ds) : Dq K F H (.ref p) (.tuple ds) := L2.Dp.tup (SqT.of (by rw [hide_out n]; exact e)) h
theorem Dq.newL (n : H p = none) (t : There F H) (h : DqAll K F H vs ds) : Dq K F (upd H p (.lst vs)) (.ref p) (.list ds) :=
  L2.Dp.lst (SqL.of (by rw [hide_out (t.fresh n), upd_same])) (h.same (same_new n _))
theorem Dq.newT (n : H p = none) (t : There F H) (h : DqAll K F H vs ds) : Dq K F (upd H p (.tup vs)) (.ref p) (.tuple ds) :=
  L2.Dp.tup (SqT.of (by rw [hide_out (t.fresh n), upd_same])) (h.same (same_new n _))
/-- a place: numbers alone -/
theorem place_q {b : Addr} {q : List Nat} (hb : ∀ ys, H b ≠ some (.tup ys)) (hf : ∀ o ys, H b ≠ some (.frz o (.tup ys))) (h : Dp K H v (plD q)) : Dq K [b] H v (plD q) := by
  cases h with
  | @tup a xs _ hs ha =>
  have ha' : ∀ (q : List Nat) (xs : List V), DpAll K H xs (q.map fun (n : Nat) => PyData.int (n : Int)) → DpAll K (hide [b] H) xs (q.map fun (n : Nat) => PyData.int (n : Int)) := by
    intro q
    induction q with
    | nil => intro xs h; cases h; exact .nil
    | cons n q ih =>
      intro xs h
      cases h with
      | cons h1 h2 => cases h1; exact .cons (.int _) (ih _ h2)
  refine L2.Dp.tup ?_ (ha' q xs ha)
  rcases hs with (e | ⟨o, e⟩) | e
  · exact .inl (.inl (by rw [hide_out fun z => hb xs (by rw [← List.mem_singleton.mp z]; exact e)]; exact e))
  · exact .inl (.inr ⟨o, by rw [hide_out fun z => hf o xs (by rw [← List.mem_singleton.mp z]; exact e)]; exact e⟩)
  · exact .inr e
end
section
variable {K : PySem.W.Frag} {b : Addr} {F : List Addr} {H H' J' : Hp} {v : V} {d : PyData}
theorem Stp.hide (s : Stp b H H') (h : b ∈ F) : Same (hide F H) (hide F H') := fun a o e => by
  unfold Tx.hide at e ⊢
  split at e
  · cases e
  · rename_i z; rw [if_neg z]; exact s.keep a o (fun y => z (by rw [y]; exact h)) e
theorem Stp.thereF (s : Stp b H H') (hB : Bag H b) (t : There F H) : There F H' := fun a h => s.there hB (t a h)
theorem Gro.hide (g : Gro b (hide F H) H J' H') (t : There F H) : Same J' (Tx.hide F H') := fun a o e => by
  have n : a ∉ F := fun z => by rw [g.fr a (t a z) (hide_in z)] at e; cases e
  rw [hide_out n]
  exact g.jh a o e
theorem Gro.dq (g : Gro b (Tx.hide F H) H J' H') (t : There F H) (h : Dp K J' v d) : Dq K F H' v d := dp_mono (g.hide t) d v h
theorem Bag.there (h : Bag H b) : There [b] H := by
  obtain ⟨c, m, e⟩ := h
  exact There.one e
theorem Bag.same (h : Bag H b) (s : Same H H') : Bag H' b := by
  obtain ⟨c, m, e⟩ := h
  exact ⟨c, m, s _ _ e⟩
theorem Stp.ofSame (h : Bag H b) (s : Same H H') : Stp b H H' := ⟨h.same s, SameBut.of s⟩
end
end Tx

namespace Tx
open PySem PySem.Spec PyProof.Rows L2
/-! ## More about errors: without fields, with two; of which class is told by the reading -/
/-- an error class without a field -/
structure Err0 (K : PySem.W.Frag) (mg : Str → Option Value) (x : Str) (C : Addr) : Prop where
  q : PySem.W.excIn K C [.type "ValueError", .type "Exception", .type "BaseException", .type "object"] "ValueError.__new__" = true
  gC : mg x = some (.ref C)
  kC : PySem.W.keepIn K (.ref C) = true
  exC : PySem.W.subIn K (.ref C) (.type "BaseException") = some true
  tyC : PySem.W.typeIn K (.ref C) = some (.type "type")
  exc : ExcC K C
  self : PySem.W.exmOne K (.ref C) (.ref C) = some true
section
variable {X : Cx} {x : Str} {C : Addr} {k : Nat} {W : WX} {p pos pos2 : Pos}
theorem ps_err0 (T : Err0 X.K X.mg x C) (calm : X.calm = true) (room : Room (k + 2) X.A) (tk : Takes X W) (_ : PA X [] tNil) (gl : Gl X x) (nd : (x == ("__debug__" : Str)) = false := by decide) :
    PS X (.Raise (some (.Call (.Name x p) [] [] pos)) none pos2) (fun _ σ H => W (.ref C) none σ H) := by
  refine ps_raise (t := fun _ H Q => Q (.ref C) none H) calm tk ?_
  intro pins s σ H Q I ask
  refine wpAny_Call_Name_kw (ld_glob I gl T.gC ?_ nd)
  refine PySem.W.callWith_K0 I.kIn T.kC ?_
  show wpAny _ _ (call (.ref C) []) _ _ _
  obtain ⟨bm, N, nm, qn, bs, hdct, sn, sub, ab, col, dd, k0, k1, k2, k3, k5, mN, hC, hN, hni, tail⟩ := exc_obj I.kIn T.q
  refine wpAny_call_exc_subT F.excBase_ValueError tail hC hN hni (fun h' e made => ?_) (by decide)
  exact mk_of I made (raises_own T.exC T.tyC) ask (I.hok.gone made.new)
end
/-- self.f = f; self.g = g -/
def spInit2 (C : Addr) (f g : Str) : Sp := fun vs H Q _ => ∃ (a : Addr) (v u : V), vs = [.ref a, v, u] ∧ H a = some (exo a C none) ∧
  ∀ dx, H dx = none → dx ≠ a → Q .non (upd (upd (upd H dx (exd dx [(f, v)])) a (exo a C (some dx))) dx (exd dx [(g, u), (f, v)]))
structure Err2 (P : Program) (w : World) (K : PySem.W.Frag) (mg : Str → Option Value) (base : Heap) (x f g : Str) (C : Addr) : Prop where
  oex : OexC K C
  exc : ExcC K C
  gC : mg x = some (.ref C)
  noF : PySem.W.findIn K (.ref C) f = some none
  noG : PySem.W.findIn K (.ref C) g = some none
  ini : ∃ (fI : Addr) (fd : FuncData), PySem.W.findIn K (.ref C) "__init__" = some (some (.ref fI)) ∧ PySem.W.typeIn K (.ref fI) = some (.type "function") ∧
    FnOk P w K mg base CX0 1 fI fd ["self", f, g] (spInit2 C f g) ∧ Binds K fd ["self", f, g] []
section
variable {X : Cx} {x f g : Str} {C : Addr} {k : Nat} {W : WX} {e e' : Expr} {ta : TA} {p pos pos2 : Pos}
def tErr2 (C : Addr) (f g : Str) (W : WX) (ta : TA) : TS := fun _ σ H => tMkO C (spInit2 C f g) [] ta σ H fun cls d H' => W cls d σ H'
theorem ps_err2 (T : Err2 X.prog X.w X.K X.mg X.base x f g C) (calm : X.calm = true) (room : Room (k + 2) X.A) (tk : Takes X W) (args : PA X [e, e'] ta) (gl : Gl X x)
    (nd : (x == ("__debug__" : Str)) = false := by decide) (plain : starEach (e :: [e']) X.env = (false, eval e X.env) :: starEach [e'] X.env := by rfl) (bare : (backTo pos (starEach [e'] X.env)).any (·.1) = false := by rfl) :
    PS X (.Raise (some (.Call (.Name x p) [e, e'] [] pos)) none pos2) (tErr2 C f g W ta) := by
  obtain ⟨fI, fd, iC, tI, F, bd⟩ := T.ini
  exact ps_raise calm tk (pmk_oex T.oex iC tI F (room.mono (by omega)) bd .nil (fun _ _ _ _ _ _ _ h => False.elim h) gl T.gC args nd plain bare)
theorem err2 {v u : V} {H : Hp} {Q : XK} (h : ∀ d, H d = none → Q (.ref C) (some d) (upd H d (.xd [(g, u), (f, v)]))) : ([v, u] : List V).length ≤ 1000 ∧ ∀ a, H a = none → spInit2 C f g (.ref a :: ([v, u] ++ [])) (upd H a (exo a C none))
    (fun z H2 => z = .non ∧ ∃ (d : Addr) (fs : List (Str × V)), H2 a = some (exo a C (some d)) ∧ H2 d = some (exd d fs) ∧ H d = none ∧ Q (.ref C) (some d) (upd (del H2 a) d (.xd fs))) (fun _ _ _ => False) := by
  refine ⟨(by show 2 ≤ 1000; decide), fun a ha => ⟨a, v, u, rfl, upd_same, fun dx hx ne => ⟨rfl, dx, [(g, u), (f, v)], ?_, upd_same, ?_, ?_⟩⟩⟩
  · rw [upd_ne (Ne.symm ne), upd_same]
  · rw [upd_ne ne] at hx
    exact hx
  · rw [upd_ne ne] at hx
    have e : upd (del (upd (upd (upd (upd H a (exo a C none)) dx (exd dx [(f, v)])) a (exo a C (some dx))) dx (exd dx [(g, u), (f, v)])) a) dx (.xd [(g, u), (f, v)]) = upd H dx (.xd [(g, u), (f, v)]) := by
      funext b
      by_cases h1 : b = dx
      · rw [h1, upd_same, upd_same]
      · rw [upd_ne h1, upd_ne h1]
        by_cases h2 : b = a
        · rw [h2, del_same, ha]
        · rw [del_ne h2, upd_ne h1, upd_ne h2, upd_ne h1, upd_ne h2]
    rw [e]
    exact h dx hx
end
section
variable {X : Cx} {a : Addr} {oe : Obj} {cls : Value} {d : Option Addr} {pn : List (Addr × Obj)} {K : PySem.W.Frag}
theorem call_isXg (hK : X.K = K) (hz : Zc cls d oe) (hf : ∃ vs, oe.data = .fields vs) : CallR (X.suite a ((a, oe) :: pn)) (.builtin "isinstance") (fun xs H Q => ∃ D, ExcC K D ∧ rIsX K D a cls d xs H Q) := by
  subst hK
  intro pins s σ H xs us Q I rel ask
  obtain ⟨D, C, h⟩ := ask
  exact call_isX C hz hf pins s σ H xs us Q I rel h
theorem pe_xg {e : Expr} {te : TE} {pos : Pos} {n : Str} (hK : X.K = K) (hz : Zc cls d oe) (hf : ∃ vs, oe.data = .fields vs) (he : PE (X.suite a ((a, oe) :: pn)) e te) (hb : attributeBase e n X.env (eval e X.env) = eval e X.env := by rfl) :
    PE (X.suite a ((a, oe) :: pn)) (.Attribute e n pos) (fun σ H Q => ∃ C, XfC K C ∧ PySem.W.findIn K (.ref C) n = some none ∧ tXf a cls d C n te σ H Q) := by
  subst hK
  refine ⟨fun pins s σ H Q I ask => ?_⟩
  obtain ⟨C, T, no, h⟩ := ask
  exact (pe_xf T no hz hf he hb).run pins s σ H Q I h
end
/-- two numbers compared -/
theorem ifI {i j : Int} {A B : Prop} (h1 : i = j → A) (h2 : i ≠ j → B) : if decide (V.int i = V.int j) = true then A else B := by
  by_cases h : i = j
  · rw [decide_eq_true (by rw [h])]
    exact iteT (h1 h)
  · rw [decide_eq_false fun z => h (by injection z)]
    exact iteF (h2 h)
/-- a class directly over the package's own base T -/
def MroT (K : PySem.W.Frag) (C T : Addr) : Prop := ∃ cd, PySem.W.clsIn K C = some cd ∧ cd.mro = [.ref C, .ref T, .type "ValueError", .type "Exception", .type "BaseException", .type "object"]
theorem mroT_of {K : PySem.W.Frag} {C T N : Addr} {nm q : Str} {bs sub : List Value} {sn : List Str} {hd ab : Bool} {col : Option Bool} {dd : Option Addr} {m0 m1 m2 m3 m5 : Option Value}
    (xL : K.lookup C = some (excClassObj nm q C N bs [.ref T, .type "ValueError", .type "Exception", .type "BaseException", .type "object"] hd sn sub ab col dd m0 m1 m2 m3 m5 "ValueError.__new__")) : MroT K C T := by
  unfold MroT PySem.W.clsIn
  rw [xL]
  exact ⟨_, rfl, rfl⟩
section
variable {K : PySem.W.Frag} {C D T : Addr}
theorem MroT.sub (m : MroT K C T) (v : Value) : PySem.W.subIn K (.ref C) v = some ([Value.ref C, .ref T, .type "ValueError", .type "Exception", .type "BaseException", .type "object"].contains v) := by
  obtain ⟨cd, e, hm⟩ := m
  show PySem.W.mroIn K C v = _
  unfold PySem.W.mroIn
  rw [e, Option.bind_some, hm]
  rfl
theorem MroT.kit (m : MroT K C T) (hc : (PySem.W.clsIn K D).isSome = true) (ht : PySem.W.typeIn K (.ref D) = some (.type "type")) (ne : D ≠ T) : PySem.W.kitOne K (.ref C) (.ref D) = some (decide (C = D)) := by
  unfold PySem.W.kitOne
  by_cases h : C = D
  · rw [if_pos (by rw [h]; exact beq_self_eq_true _), decide_eq_true h]
  · rw [if_neg (by intro z; exact h (Value.ref.inj (beq_iff_eq.mp z))), decide_eq_false h]
    show (if ((PySem.W.clsIn K D).isSome && PySem.W.typeIn K (.ref D) == some (.type "type")) = true then PySem.W.subIn K (.ref C) (.ref D) else none) = some false
    rw [if_pos (by rw [hc, ht]; decide), m.sub]
    refine congrArg some ?_
    have h1 : (Value.ref D == Value.ref C) = false := beq_eq_false_iff_ne.mpr fun z => h (Value.ref.inj z).symm
    have h2 : (Value.ref D == Value.ref T) = false := beq_eq_false_iff_ne.mpr fun z => ne (Value.ref.inj z)
    simp only [List.contains, List.elem, h1, h2]
    rfl
theorem MroT.kitT (m : MroT K C T) (hc : (PySem.W.clsIn K T).isSome = true) (ht : PySem.W.typeIn K (.ref T) = some (.type "type")) : PySem.W.kitOne K (.ref C) (.ref T) = some true := by
  unfold PySem.W.kitOne
  by_cases h : C = T
  · rw [if_pos (by rw [h]; exact beq_self_eq_true _)]
  · rw [if_neg (by intro z; exact h (Value.ref.inj (beq_iff_eq.mp z)))]
    show (if ((PySem.W.clsIn K T).isSome && PySem.W.typeIn K (.ref T) == some (.type "type")) = true then PySem.W.subIn K (.ref C) (.ref T) else none) = some true
    rw [if_pos (by rw [hc, ht]; decide), m.sub]
    simp
theorem MroT.kitV (m : MroT K C T) : PySem.W.kitOne K (.ref C) (.type "ValueError") = some true := by
  unfold PySem.W.kitOne
  rw [if_neg (by intro z; cases (beq_iff_eq.mp z))]
  show (if PySem.W.kitMeta "ValueError" = true then PySem.W.subIn K (.ref C) (.type "ValueError") else none) = some true
  rw [if_pos (by decide +kernel), m.sub]
  simp
theorem MroT.exm (m : MroT K C T) (hd : PySem.W.hasDictIn K T = true) (hb : PySem.W.subIn K (.ref T) (.type "BaseException") = some true) (ht : PySem.W.typeIn K (.ref T) = some (.type "type")) : PySem.W.exmOne K (.ref C) (.ref T) = some true :=
  PySem.W.exm_ref hb hd ht (by rw [m.sub]; simp)
theorem MroT.some (m : MroT K C T) : (PySem.W.clsIn K C).isSome = true := by
  obtain ⟨cd, e, _⟩ := m
  rw [e]
  rfl
end
theorem err0_of {K : PySem.W.Frag} {mg : Str → Option Value} {h : Heap} {x : Str} {C : Addr} (X : K.In h) (G : h.Ns mainGlobals mg) (aC : PySem.W.nsIn K mainGlobals x = some (some (.ref C)))
    (q : PySem.W.excIn K C [.type "ValueError", .type "Exception", .type "BaseException", .type "object"] "ValueError.__new__" = true)
    (ga : PySem.W.findIn K (.ref C) "__getattribute__" = some (some (.builtin "BaseException.__getattribute__"))) (gg : PySem.W.findIn K (.ref C) "__getattr__" = some none)
    (kC : PySem.W.keepIn K (.ref C) = true) (eC : PySem.W.subIn K (.ref C) (.type "BaseException") = some true) (tC : PySem.W.typeIn K (.ref C) = some (.type "type")) (hC : PySem.W.hasDictIn K C = true)
    (cC : PySem.W.findIn K (.ref C) "__class__" = some (some (.builtin "object.__class__"))) (gC : PySem.W.specialIn K (.builtin "object.__class__") "__get__" = some (some (.builtin "getset_descriptor.__get__")))
    (uC : PySem.W.takesIn K (.builtin "object.__class__") = some true) (oC : PySem.W.mroIn K C (.type "object") = some true) (sC : PySem.W.subIn K (.ref C) (.ref C) = some true) : Err0 K mg x C :=
  ⟨q, PySem.W.mg_of X G aC, kC, eC, tC, ⟨ga, gg, eC, hC, cC, gC, uC, oC⟩, PySem.W.exm_ref eC hC tC sC⟩
theorem err2_of {P : Program} {w : World} {K : PySem.W.Frag} {mg : Str → Option Value} {base h : Heap} {x f g : Str} {C fI N : Addr} {fd : FuncData} {nm q : Str} {bs bm sub : List Value} {sn : List Str} {ab : Bool} {col : Option Bool} {dd : Option Addr} {m0 m1 m2 m3 m5 : Option Value}
    (X : K.In h) (G : h.Ns mainGlobals mg) (aC : PySem.W.nsIn K mainGlobals x = some (some (.ref C)))
    (xL : K.lookup C = some (excClassObj nm q C N bs bm true sn sub ab col dd m0 m1 m2 m3 m5 "ValueError.__new__")) (vb : PySem.HandSPX.refsVE bm = true)
    (sa : PySem.W.findIn K (.ref C) "__setattr__" = some (some (.builtin "object.__setattr__"))) (ga : PySem.W.findIn K (.ref C) "__getattribute__" = some (some (.builtin "BaseException.__getattribute__")))
    (gg : PySem.W.findIn K (.ref C) "__getattr__" = some none) (nf : PySem.W.findIn K (.ref C) f = some none) (ng : PySem.W.findIn K (.ref C) g = some none) (ai : PySem.W.findIn K (.ref C) "__init__" = some (some (.ref fI))) (ti : PySem.W.typeIn K (.ref fI) = some (.type "function"))
    (kC : PySem.W.keepIn K (.ref C) = true) (eC : PySem.W.subIn K (.ref C) (.type "BaseException") = some true) (tC : PySem.W.typeIn K (.ref C) = some (.type "type")) (hC : PySem.W.hasDictIn K C = true)
    (cC : PySem.W.findIn K (.ref C) "__class__" = some (some (.builtin "object.__class__"))) (gC : PySem.W.specialIn K (.builtin "object.__class__") "__get__" = some (some (.builtin "getset_descriptor.__get__")))
    (uC : PySem.W.takesIn K (.builtin "object.__class__") = some true) (oC : PySem.W.mroIn K C (.type "object") = some true)
    (ini : OexC K C → FnOk P w K mg base CX0 1 fI fd ["self", f, g] (spInit2 C f g) ∧ Binds K fd ["self", f, g] []) : Err2 P w K mg base x f g C := by
  have oex : OexC K C := ⟨⟨nm, q, N, bs, bm, sn, sub, ab, col, dd, m0, m1, m2, m3, m5, xL, vb⟩, sa, eC, tC, kC⟩
  exact ⟨oex, ⟨ga, gg, eC, hC, cC, gC, uC, oC⟩, PySem.W.mg_of X G aC, nf, ng, fI, fd, ai, ti, (ini oex).1, (ini oex).2⟩
end Tx

namespace Tx
open PySem PySem.Spec PyProof.Rows L2
abbrev sField : Stmt := top 17
theorem scField : FnScope ["_law_bag_here", "_law_pick", "_law_number"] ["_law_bag_here"] (defScope sField) := ⟨rfl, rfl, rfl, by decide +kernel, rfl, by decide +kernel, by decide +kernel⟩
abbrev sEarly : Stmt := top 18
theorem scEarly : FnScope ["_law_number", "_law_one"] ["_law_number", "_law_one"] (defScope sEarly) := ⟨rfl, rfl, rfl, by decide +kernel, rfl, by decide +kernel, by decide +kernel⟩
abbrev sRaise : Stmt := top 19
theorem scRaise : FnScope ["_law_number", "_law_one", "_law_two"] ["_law_number", "_law_one", "_law_two"] (defScope sRaise) := ⟨rfl, rfl, rfl, by decide +kernel, rfl, by decide +kernel, by decide +kernel⟩
abbrev sTold : Stmt := top 20
theorem scTold : FnScope ["_law_number", "_law_one", "_law_two", "e", "_law_found"] ["_law_number", "_law_one", "_law_two"] (defScope sTold) := ⟨rfl, rfl, rfl, by decide +kernel, rfl, by decide +kernel, by decide +kernel⟩
abbrev sLaw : Stmt := top 21
theorem scLaw : FnScope ["_law_script", "_law_at", "_law_bag_here", "_law_number", "_law_due", "_law_kinds", "_law_one", "_law_two", "_law_k"] ["_law_script"] (defScope sLaw) := ⟨rfl, rfl, rfl, by decide +kernel, rfl, by decide +kernel, by decide +kernel⟩
/-- field(bag): one thing or another -/
def spField (K : PySem.W.Frag) : Sp := fun vs H Q _ => ∃ (b : Addr) (F : List Addr), vs = [.ref b] ∧ Bag H b ∧ b ∈ F ∧ There F H ∧
  ∀ (v : V) (d : PyData) (H' : Hp), Stp b H H' → Dq K F H' v d → Thing 2 6000 d → Q v H'
section
variable {P : Program} {w : World} {K : PySem.W.Frag} {mg : Str → Option Value} {base : Heap}
theorem small_int {i : Int} (h : i.natAbs < 2 ^ 1000) : fine (.int i) = true := by
  simp only [fine, decide_eq_true_eq]
  by_cases z : i.natAbs = 0
  · rw [z]; decide
  · have := (Nat.log2_lt z).mpr h
    omega
theorem d_field (h : Has K mg "_law_field" sField) (B : Bi mg) (D_law_take : Dfn P w K mg base CX0 1 "_law_take" ["_law_bag_here", "_law_many"] spTake) : Dfn P w K mg base CX0 2 "_law_field" ["_law_bag_here"] (spField K) := by
  refine dfn0 (k := 1) h B scField (fun _ _ _ _ _ _ us hl => match us, hl with | [_], _ => rfl) (fun vs H Q E h => ?_) (fun f cv A out s H vs Q E c h => ?_)
  · obtain ⟨b, F, rfl, _⟩ := h
    rfl
  obtain ⟨b, F, rfl, hB, bF, tF, q⟩ := h
  refine ⟨_, (pss_cons (ps_set (i := 1) scField.nd rfl (Or.inl rfl) (pe_d D_law_take c (by omega) (by rfl) (pa_cons (pv 0) (pa_cons pe_int pa_nil))))
    (pss_cons (ps_set (i := 2) scField.nd rfl (Or.inl rfl) (pe_d D_law_take c (by omega) (by rfl) (pa_cons (pv 0) (pa_cons pe_int pa_nil))))
    (pss_cons (ps_if (pt_cmpR op_lt (pv 1) pe_int (nomark _)) (pss_one (ps_ret (pe_ix ix_list (pe_lst (pa_cons (pv 2) (pa_cons (pe_un un_neg (pv 2)) (pa_cons (pe_op op_add (pe_op op_pow pe_int pe_int) (pv 2)) pa_nil)))) (pv 1) (fun _ _ => rfl)))) pss_nil)
    (pss_one (ps_ret (pe_ix ix_list (pe_lst (pa_cons pe_bl (pa_cons pe_non (pa_cons pe_str (pa_cons pe_str (pa_cons (pe_tup (pa_cons (pv 2) (pa_cons pe_str pa_nil))) (pa_cons (pe_lst (pa_cons (pv 2) (pa_cons (pe_lst (pa_cons pe_non pa_nil)) pa_nil))) pa_nil))))))) (pe_op op_sub (pv 1) pe_int) (fun _ _ => rfl))))))), ?_⟩
  refine ⟨_, rfl, b, 9, rfl, hB, by decide, by decide, fun k H0 k0 k1 st0 => ?_⟩
  refine ⟨_, rfl, b, 1000, rfl, st0.bag, by decide, by decide, fun m H1 m0 m1 st1 => ?_⟩
  have st := st0.trans st1
  have tF1 := st.thereF hB tF
  refine ⟨_, rfl, _, _, rfl, rfl, _, rfl, ite2 (fun lt => ?_) (fun nl => ?_)⟩
  · have lt' : k < 3 := of_decide_eq_true lt
    refine ⟨_, rfl, _, rfl, _, rfl, _, _, rfl, rfl, ⟨by decide, by decide, by decide⟩, _, rfl, _, _, rfl, rfl, (by show 3 ≤ sizeLine; decide), fun p hp => ?_⟩
    obtain ⟨v, i1, i2⟩ := atI_of (xs := [V.int m, V.int (-m), V.int (10 ^ (25 : Int).toNat + m)]) k0 (by show k < 3; exact lt')
    refine ⟨_, rfl, p, _, _, _, rfl, rfl, SqL.of upd_same, i1, ?_⟩
    have h3 : k.toNat = 0 ∨ k.toNat = 1 ∨ k.toNat = 2 := by omega
    have big : ∀ i : Int, i.natAbs < 2 ^ 1000 → Q (.int i) (upd H1 p (.lst [V.int m, V.int (-m), V.int (10 ^ (25 : Int).toNat + m)])) := fun i hi => q _ (.int i) _ (st.new hp _) (.int i) ⟨small_int hi, by simp [PyData.depth], by simp [wt]⟩
    have e25 : (10 : Int) ^ (25 : Int).toNat = 10000000000000000000000000 := by decide
    have e1000 : (1000000000000000000000000000 : Nat) ≤ 2 ^ 1000 := by decide +kernel
    rcases h3 with z | z | z <;> rw [z] at i2 <;> cases i2
    · exact big _ (by omega)
    · exact big _ (by omega)
    · exact big _ (by rw [e25]; omega)
  · have nl' : ¬ k < 3 := fun z => nl (decide_eq_true z)
    refine ⟨_, rfl, (by show 2 ≤ sizeLine; decide), fun e1 h1 => ⟨_, rfl, (by show 1 ≤ sizeLine; decide), fun e2 h2 => ⟨(by show 2 ≤ sizeLine; decide), fun e3 h3 => ⟨(by show 6 ≤ sizeLine; decide), fun e4 h4 => ?_⟩⟩⟩⟩
    have e1000 : (1000000000000000000000000000 : Nat) ≤ 2 ^ 1000 := by decide +kernel
    have mf : fine (.int m) = true := small_int (by omega)
    have s1 := same_new h1 (.tup [.int m, .str "a"])
    have s2 := same_new h2 (.lst [.non])
    have s3 := same_new h3 (.lst [.int m, .ref e2])
    have t1 := tF1.same s1
    have t2 := t1.same s2
    have x1 := ((Dq.newT (K := K) h1 tF1 (ds := [.int m, .str "a"]) (.cons (.int _) (.cons (.str _) .nil))).same s2).same s3
    have x2 := Dq.newL (K := K) h2 t1 (ds := [.none]) (.cons .non .nil)
    have x3 := Dq.newL (K := K) h3 t2 (ds := [.int m, .list [.none]]) (.cons (.int _) (.cons x2 .nil))
    have s4 := fun o => same_new (o := o) h4
    have st4 := fun o => (((st.new h1 (.tup [.int m, .str "a"])).new h2 (.lst [.non])).new h3 (.lst [.int m, .ref e2])).new h4 o
    obtain ⟨v, i1, i2⟩ := atI_of (xs := [V.bl true, V.non, V.str "end", V.str "", V.ref e1, V.ref e3]) (i := k - 3) (by omega) (by show k - 3 < 6; omega)
    refine ⟨_, rfl, _, _, rfl, rfl, e4, _, _, _, rfl, rfl, SqL.of upd_same, i1, ?_⟩
    have h6 : (k - 3).toNat = 0 ∨ (k - 3).toNat = 1 ∨ (k - 3).toNat = 2 ∨ (k - 3).toNat = 3 ∨ (k - 3).toNat = 4 ∨ (k - 3).toNat = 5 := by omega
    rcases h6 with z | z | z | z | z | z <;> rw [z] at i2 <;> cases i2
    · exact q _ (.bool true) _ (st4 _) (.bl _) ⟨rfl, by decide, by decide⟩
    · exact q _ .none _ (st4 _) .non ⟨rfl, by decide, by decide⟩
    · exact q _ (.str "end") _ (st4 _) (.str _) ⟨by decide +kernel, by decide, by decide⟩
    · exact q _ (.str "") _ (st4 _) (.str _) ⟨by decide +kernel, by decide, by decide⟩
    · exact q _ _ _ (st4 _) (x1.same (s4 _)) ⟨by simp only [fine, fineAll, Bool.and_true] at mf ⊢; rw [mf]; decide +kernel, by simp [PyData.depth, PyData.depthAll], by simp [wt, wtAll]; decide⟩
    · exact q _ _ _ (st4 _) (x3.same (s4 _)) ⟨by simp only [fine, fineAll, Bool.and_true] at mf ⊢; rw [mf], by simp [PyData.depth, PyData.depthAll], by simp [wt, wtAll]⟩
end
end Tx

namespace Tx
open PySem PySem.Spec PyProof.Rows L2
/-- the fields of the error with a number -/
def fl : Nat → V → V → List (Str × V)
  | 0, o, _ => [("place", o)]
  | 1, o, _ => [("place", o)]
  | 2, _, _ => []
  | 3, o, _ => [("at", o)]
  | 4, o, _ => [("at", o)]
  | 5, o, _ => [("line", o)]
  | 6, o, _ => [("what", o)]
  | 7, o, _ => [("name", o)]
  | 8, o, t => [("line", t), ("way", o)]
  | 9, o, _ => [("name", o)]
  | 10, o, _ => [("at", o)]
  | _, o, _ => [("spot", o)]
/-- how the error with a number lies -/
def Lies (n : Nat) (one two : V) (dd : Option Addr) (H : Hp) : Prop := (n = 2 ∧ dd = none) ∨ (n ≠ 2 ∧ ∃ d, dd = some d ∧ H d = some (.xd (fl n one two)))
def spEarly (Cs : Nat → Addr) : Sp := fun vs H _ E => ∃ (n : Nat) (v : V), vs = [.int n, v] ∧ n < 6 ∧ ∀ (two : V) (dd : Option Addr) (H' : Hp), Same H H' → Lies n v two dd H' → E (.ref (Cs n)) dd H'
def spRaise (Cs : Nat → Addr) : Sp := fun vs H _ E => ∃ (n : Nat) (v u : V), vs = [.int n, v, u] ∧ n < 12 ∧ ∀ (dd : Option Addr) (H' : Hp), Same H H' → Lies n v u dd H' → E (.ref (Cs n)) dd H'
/-- the twelve classes -/
structure Twelve (P : Program) (w : World) (K : PySem.W.Frag) (mg : Str → Option Value) (base : Heap) (CT : Addr) (Cs : Nat → Addr) : Prop where
  e0 : Err1 P w K mg base "BadValue" "place" (Cs 0)
  e1 : Err1 P w K mg base "NoPlace" "place" (Cs 1)
  e2 : Err0 K mg "NoItems" (Cs 2)
  e3 : Err1 P w K mg base "NoEntry" "at" (Cs 3)
  e4 : Err1 P w K mg base "NotText" "at" (Cs 4)
  e5 : Err1 P w K mg base "BadProgram" "line" (Cs 5)
  e6 : Err1 P w K mg base "TooMany" "what" (Cs 6)
  e7 : Err1 P w K mg base "NoFunction" "name" (Cs 7)
  e8 : Err2 P w K mg base "Stopped" "way" "line" (Cs 8)
  e9 : Err1 P w K mg base "NoTaker" "name" (Cs 9)
  e10 : Err1 P w K mg base "BadFate" "at" (Cs 10)
  e11 : Err1 P w K mg base "BadSpot" "spot" (Cs 11)
  base : Cls0 mg "TextorlistError" CT
  exm : ∀ i, i < 12 → PySem.W.exmOne K (.ref (Cs i)) (.ref CT) = some true
  kit : ∀ i j, i < 12 → j < 12 → PySem.W.kitOne K (.ref (Cs i)) (.ref (Cs j)) = some (decide (i = j))
  kitV : ∀ i, i < 12 → PySem.W.kitOne K (.ref (Cs i)) (.type "ValueError") = some true
section
variable {P : Program} {w : World} {K : PySem.W.Frag} {mg : Str → Option Value} {base : Heap} {CT : Addr} {Cs : Nat → Addr}
theorem d_early (h : Has K mg "_law_early" sEarly) (B : Bi mg) (T : Twelve P w K mg base CT Cs) : Dfn P w K mg base (L2.CX P w) 4 "_law_early" ["_law_number", "_law_one"] (spEarly Cs) := by
  have X_BadValue := T.e0
  have X_NoPlace := T.e1
  have X_NoItems := T.e2
  have X_NoEntry := T.e3
  have X_NotText := T.e4
  have X_BadProgram := T.e5
  refine dfnX (k := 3) h B scEarly (fun _ _ _ _ _ _ us hl => match us, hl with | [_, _], _ => rfl) (fun vs H Q E h => ?_) (fun f cv A out s H vs Q E c h => ?_)
  · obtain ⟨n, v, rfl, _⟩ := h
    rfl
  obtain ⟨n, v, rfl, hn, q⟩ := h
  refine ⟨_, (pss_cons (ps_if (pt_cmpR op_eq (pv 0) pe_int (nomark _)) (pss_one (ps_err1 (k := 0) X_BadValue rfl (c.r.mono (by omega)) (takes_of rfl rfl rfl rfl) (pa_cons (pv 1) pa_nil) (by rfl))) pss_nil)
    (pss_cons (ps_if (pt_cmpR op_eq (pv 0) pe_int (nomark _)) (pss_one (ps_err1 (k := 0) X_NoPlace rfl (c.r.mono (by omega)) (takes_of rfl rfl rfl rfl) (pa_cons (pv 1) pa_nil) (by rfl))) pss_nil)
    (pss_cons (ps_if (pt_cmpR op_eq (pv 0) pe_int (nomark _)) (pss_one (ps_err0 (k := 0) X_NoItems rfl (c.r.mono (by omega)) (takes_of rfl rfl rfl rfl) pa_nil (by rfl))) pss_nil)
    (pss_cons (ps_if (pt_cmpR op_eq (pv 0) pe_int (nomark _)) (pss_one (ps_err1 (k := 0) X_NoEntry rfl (c.r.mono (by omega)) (takes_of rfl rfl rfl rfl) (pa_cons (pv 1) pa_nil) (by rfl))) pss_nil)
    (pss_cons (ps_if (pt_cmpR op_eq (pv 0) pe_int (nomark _)) (pss_one (ps_err1 (k := 0) X_NotText rfl (c.r.mono (by omega)) (takes_of rfl rfl rfl rfl) (pa_cons (pv 1) pa_nil) (by rfl))) pss_nil)
    (pss_one (ps_err1 (k := 0) X_BadProgram rfl (c.r.mono (by omega)) (takes_of rfl rfl rfl rfl) (pa_cons (pv 1) pa_nil) (by rfl)))))))), ?_⟩
  refine ⟨_, rfl, rfl, _, rfl, ifI (fun e => ?_) (fun n0 => ?_)⟩
  · obtain rfl : n = 0 := by omega
    exact ⟨_, rfl, err1 fun d hd => q .non _ _ (same_new hd _) (.inr ⟨by decide, d, rfl, upd_same⟩)⟩
  refine ⟨_, rfl, rfl, _, rfl, ifI (fun e => ?_) (fun n1 => ?_)⟩
  · obtain rfl : n = 1 := by omega
    exact ⟨_, rfl, err1 fun d hd => q .non _ _ (same_new hd _) (.inr ⟨by decide, d, rfl, upd_same⟩)⟩
  refine ⟨_, rfl, rfl, _, rfl, ifI (fun e => ?_) (fun n2 => ?_)⟩
  · obtain rfl : n = 2 := by omega
    exact q .non _ _ (Same.refl _) (.inl ⟨rfl, rfl⟩)
  refine ⟨_, rfl, rfl, _, rfl, ifI (fun e => ?_) (fun n3 => ?_)⟩
  · obtain rfl : n = 3 := by omega
    exact ⟨_, rfl, err1 fun d hd => q .non _ _ (same_new hd _) (.inr ⟨by decide, d, rfl, upd_same⟩)⟩
  refine ⟨_, rfl, rfl, _, rfl, ifI (fun e => ?_) (fun n4 => ?_)⟩
  · obtain rfl : n = 4 := by omega
    exact ⟨_, rfl, err1 fun d hd => q .non _ _ (same_new hd _) (.inr ⟨by decide, d, rfl, upd_same⟩)⟩
  obtain rfl : n = 5 := by omega
  exact ⟨_, rfl, err1 fun d hd => q .non _ _ (same_new hd _) (.inr ⟨by decide, d, rfl, upd_same⟩)⟩
theorem d_raise (h : Has K mg "_law_raise" sRaise) (B : Bi mg) (T : Twelve P w K mg base CT Cs) (D_law_early : Dfn P w K mg base (L2.CX P w) 4 "_law_early" ["_law_number", "_law_one"] (spEarly Cs)) :
    Dfn P w K mg base (L2.CX P w) 5 "_law_raise" ["_law_number", "_law_one", "_law_two"] (spRaise Cs) := by
  have X_TooMany := T.e6
  have X_NoFunction := T.e7
  have X_Stopped := T.e8
  have X_NoTaker := T.e9
  have X_BadFate := T.e10
  have X_BadSpot := T.e11
  refine dfnX (k := 4) h B scRaise (fun _ _ _ _ _ _ us hl => match us, hl with | [_, _, _], _ => rfl) (fun vs H Q E h => ?_) (fun f cv A out s H vs Q E c h => ?_)
  · obtain ⟨n, v, u, rfl, _⟩ := h
    rfl
  obtain ⟨n, v, u, rfl, hn, q⟩ := h
  refine ⟨_, (pss_cons (ps_if (pt_cmpR op_lt (pv 0) pe_int (nomark _)) (pss_one (ps_expr (pe_dS D_law_early c (by omega) (by rfl) (E := fun _ => E) (fun σ pins H s e s1 => passes_call (takes_of rfl rfl rfl rfl) (fun _ _ _ _ h => h) pins σ H s e s1) (pa_cons (pv 0) (pa_cons (pv 1) pa_nil))))) pss_nil)
    (pss_cons (ps_if (pt_cmpR op_eq (pv 0) pe_int (nomark _)) (pss_one (ps_err1 (k := 0) X_TooMany rfl (c.r.mono (by omega)) (takes_of rfl rfl rfl rfl) (pa_cons (pv 1) pa_nil) (by rfl))) pss_nil)
    (pss_cons (ps_if (pt_cmpR op_eq (pv 0) pe_int (nomark _)) (pss_one (ps_err1 (k := 0) X_NoFunction rfl (c.r.mono (by omega)) (takes_of rfl rfl rfl rfl) (pa_cons (pv 1) pa_nil) (by rfl))) pss_nil)
    (pss_cons (ps_if (pt_cmpR op_eq (pv 0) pe_int (nomark _)) (pss_one (ps_err2 (k := 0) X_Stopped rfl (c.r.mono (by omega)) (takes_of rfl rfl rfl rfl) (pa_cons (pv 1) (pa_cons (pv 2) pa_nil)) (by rfl))) pss_nil)
    (pss_cons (ps_if (pt_cmpR op_eq (pv 0) pe_int (nomark _)) (pss_one (ps_err1 (k := 0) X_NoTaker rfl (c.r.mono (by omega)) (takes_of rfl rfl rfl rfl) (pa_cons (pv 1) pa_nil) (by rfl))) pss_nil)
    (pss_cons (ps_if (pt_cmpR op_eq (pv 0) pe_int (nomark _)) (pss_one (ps_err1 (k := 0) X_BadFate rfl (c.r.mono (by omega)) (takes_of rfl rfl rfl rfl) (pa_cons (pv 1) pa_nil) (by rfl))) pss_nil)
    (pss_one (ps_err1 (k := 0) X_BadSpot rfl (c.r.mono (by omega)) (takes_of rfl rfl rfl rfl) (pa_cons (pv 1) pa_nil) (by rfl))))))))), ?_⟩
  refine ⟨_, rfl, _, _, rfl, rfl, _, rfl, ite2 (fun lt => ?_) (fun nl => ?_)⟩
  · have lt' : (n : Int) < 6 := of_decide_eq_true lt
    exact ⟨_, rfl, _, rfl, n, v, rfl, by omega, fun two dd H' sm ly => q dd H' sm (by
      rcases ly with z | ⟨z, d, e1, e2⟩
      · exact .inl z
      · refine .inr ⟨z, d, e1, ?_⟩
        have : n = 0 ∨ n = 1 ∨ n = 3 ∨ n = 4 ∨ n = 5 := by omega
        rcases this with rfl | rfl | rfl | rfl | rfl <;> exact e2)⟩
  have nl' : ¬ (n : Int) < 6 := fun z => nl (decide_eq_true z)
  refine ⟨_, rfl, rfl, _, rfl, ifI (fun e => ?_) (fun n0 => ?_)⟩
  · obtain rfl : n = 6 := by omega
    exact ⟨_, rfl, err1 fun d hd => q _ _ (same_new hd _) (.inr ⟨by decide, d, rfl, upd_same⟩)⟩
  refine ⟨_, rfl, rfl, _, rfl, ifI (fun e => ?_) (fun n1 => ?_)⟩
  · obtain rfl : n = 7 := by omega
    exact ⟨_, rfl, err1 fun d hd => q _ _ (same_new hd _) (.inr ⟨by decide, d, rfl, upd_same⟩)⟩
  refine ⟨_, rfl, rfl, _, rfl, ifI (fun e => ?_) (fun n2 => ?_)⟩
  · obtain rfl : n = 8 := by omega
    exact ⟨_, rfl, _, rfl, err2 fun d hd => q _ _ (same_new hd _) (.inr ⟨by decide, d, rfl, upd_same⟩)⟩
  refine ⟨_, rfl, rfl, _, rfl, ifI (fun e => ?_) (fun n3 => ?_)⟩
  · obtain rfl : n = 9 := by omega
    exact ⟨_, rfl, err1 fun d hd => q _ _ (same_new hd _) (.inr ⟨by decide, d, rfl, upd_same⟩)⟩
  refine ⟨_, rfl, rfl, _, rfl, ifI (fun e => ?_) (fun n4 => ?_)⟩
  · obtain rfl : n = 10 := by omega
    exact ⟨_, rfl, err1 fun d hd => q _ _ (same_new hd _) (.inr ⟨by decide, d, rfl, upd_same⟩)⟩
  obtain rfl : n = 11 := by omega
  exact ⟨_, rfl, err1 fun d hd => q _ _ (same_new hd _) (.inr ⟨by decide, d, rfl, upd_same⟩)⟩
end
end Tx

namespace Tx
open PySem PySem.Spec PyProof.Rows L2
/-- which of the twelve, and a ValueError -/
def kindsV (n : Nat) : List V := [.bl (decide (n = 0)), .bl (decide (n = 1)), .bl (decide (n = 2)), .bl (decide (n = 3)), .bl (decide (n = 4)), .bl (decide (n = 5)), .bl (decide (n = 6)), .bl (decide (n = 7)), .bl (decide (n = 8)), .bl (decide (n = 9)), .bl (decide (n = 10)), .bl (decide (n = 11)), .bl true]
def kindsD (n : Nat) : List PyData := [.bool (decide (n = 0)), .bool (decide (n = 1)), .bool (decide (n = 2)), .bool (decide (n = 3)), .bool (decide (n = 4)), .bool (decide (n = 5)), .bool (decide (n = 6)), .bool (decide (n = 7)), .bool (decide (n = 8)), .bool (decide (n = 9)), .bool (decide (n = 10)), .bool (decide (n = 11)), .bool true]
def dueD (n : Nat) (d1 d2 : PyData) : List PyData := if n = 2 then [] else if n = 8 then [d1, d2] else [d1]
theorem kinds_dp {K : PySem.W.Frag} {H : Hp} (n : Nat) : DpAll K H (kindsV n) (kindsD n) := by
  unfold kindsV kindsD
  repeat (first | exact .nil | refine .cons (.bl _) ?_)
def spTold (K : PySem.W.Frag) : Sp := fun vs H Q _ => ∃ (n : Nat) (v u : V) (d1 d2 : PyData), vs = [.int n, v, u] ∧ n < 12 ∧ Dp K H v d1 ∧ Dp K H u d2 ∧
  ∀ (z : V) (H' : Hp), Same H H' → Dp K H' z (.tuple [.list (kindsD n), .list (dueD n d1 d2)]) → Q z H'
section
variable {P : Program} {w : World} {K : PySem.W.Frag} {mg : Str → Option Value} {base : Heap} {CT : Addr} {Cs : Nat → Addr}
theorem Twelve.exc (T : Twelve P w K mg base CT Cs) : ∀ i, i < 12 → ExcC K (Cs i)
  | 0, _ => T.e0.exc
  | 1, _ => T.e1.exc
  | 2, _ => T.e2.exc
  | 3, _ => T.e3.exc
  | 4, _ => T.e4.exc
  | 5, _ => T.e5.exc
  | 6, _ => T.e6.exc
  | 7, _ => T.e7.exc
  | 8, _ => T.e8.exc
  | 9, _ => T.e9.exc
  | 10, _ => T.e10.exc
  | 11, _ => T.e11.exc
  | n + 12, h => by omega
theorem isx (T : Twelve P w K mg base CT Cs) {n j : Nat} (hn : n < 12) (hj : j < 12) {a : Addr} {dd : Option Addr} {H : Hp} {Q : VK} (xd : ∀ d2, dd = some d2 → ∃ fs, H d2 = some (.xd fs)) (h : Q (.bl (decide (n = j))) H) :
    ∃ D, ExcC K D ∧ rIsX K D a (.ref (Cs n)) dd [.ref a, .ref (Cs j)] H Q := ⟨Cs n, T.exc n hn, .ref (Cs j), .ref (Cs j), _, rfl, rfl, .own _, T.kit n j hn hj, xd, h⟩
theorem isv (T : Twelve P w K mg base CT Cs) {n : Nat} (hn : n < 12) {a : Addr} {dd : Option Addr} {H : Hp} {Q : VK} (xd : ∀ d2, dd = some d2 → ∃ fs, H d2 = some (.xd fs)) (h : Q (.bl true) H) :
    ∃ D, ExcC K D ∧ rIsX K D a (.ref (Cs n)) dd [.ref a, .ty "ValueError"] H Q := ⟨Cs n, T.exc n hn, .ty "ValueError", .type "ValueError", _, rfl, rfl, .ty _, T.kitV n hn, xd, h⟩
theorem Lies.xd {n : Nat} {one two : V} {dd : Option Addr} {H H' : Hp} (h : Lies n one two dd H) (s : Same H H') : ∀ d2, dd = some d2 → ∃ fs, H' d2 = some (.xd fs) := fun d2 z => by
  rcases h with ⟨_, e⟩ | ⟨_, d, e, hd⟩
  · rw [e] at z; cases z
  · rw [e] at z; cases z; exact ⟨_, s _ _ hd⟩
theorem d_told (h : Has K mg "_law_told" sTold) (B : Bi mg) (T : Twelve P w K mg base CT Cs) (D_law_raise : Dfn P w K mg base (L2.CX P w) 5 "_law_raise" ["_law_number", "_law_one", "_law_two"] (spRaise Cs)) : Dfn P w K mg base CX0 6 "_law_told" ["_law_number", "_law_one", "_law_two"] (spTold K) := by
  have X_BadValue := T.e0
  have X_NoPlace := T.e1
  have X_NoItems := T.e2
  have X_NoEntry := T.e3
  have X_NotText := T.e4
  have X_BadProgram := T.e5
  have X_TooMany := T.e6
  have X_NoFunction := T.e7
  have X_Stopped := T.e8
  have X_NoTaker := T.e9
  have X_BadFate := T.e10
  have X_BadSpot := T.e11
  have X_TextorlistError := T.base
  refine dfn0 (k := 5) h B scTold (fun _ _ _ _ _ _ us hl => match us, hl with | [_, _, _], _ => rfl) (fun vs H Q E h => ?_) (fun f cv A out s H vs Q E c h => ?_)
  · obtain ⟨n, v, u, d1, d2, rfl, _⟩ := h
    rfl
  obtain ⟨n, v, u, d1, d2, rfl, hn, hv, hu, q⟩ := h
  refine ⟨_, (pss_cons (ps_try_as (i := 3) (Wout := fun _ _ _ _ => False) rfl rfl scTold.nd rfl rfl ⟨rfl, by decide, Or.inl X_TextorlistError.gC⟩ takes0
    (fun W pn xe tk _ => (pss_one (ps_expr (pe_dS D_law_raise c (by omega) (by rfl) (fun σ => passAt tk σ) (pa_cons (pv 0) (pa_cons (pv 1) (pa_cons (pv 2) pa_nil)))))))
    (fun a oe cls d pn hz hf => (pss_cons (ps_set (i := 4) scTold.nd rfl (Or.inl rfl) (pe_lst (pa_cons (pe_callB (call_isXg (K := K) rfl hz hf) (by rfl) c.b.isinstance (by decide +kernel) (pa_cons (pv 3) (pa_cons (pe_gcl X_BadValue.gC (by rfl)) pa_nil))) (pa_cons (pe_callB (call_isXg (K := K) rfl hz hf) (by rfl) c.b.isinstance (by decide +kernel) (pa_cons (pv 3) (pa_cons (pe_gcl X_NoPlace.gC (by rfl)) pa_nil))) (pa_cons (pe_callB (call_isXg (K := K) rfl hz hf) (by rfl) c.b.isinstance (by decide +kernel) (pa_cons (pv 3) (pa_cons (pe_gcl X_NoItems.gC (by rfl)) pa_nil))) (pa_cons (pe_callB (call_isXg (K := K) rfl hz hf) (by rfl) c.b.isinstance (by decide +kernel) (pa_cons (pv 3) (pa_cons (pe_gcl X_NoEntry.gC (by rfl)) pa_nil))) pa_nil))))))
    (pss_cons (ps_set (i := 4) scTold.nd rfl (Or.inl rfl) (pe_op op_cat (pv 4) (pe_lst (pa_cons (pe_callB (call_isXg (K := K) rfl hz hf) (by rfl) c.b.isinstance (by decide +kernel) (pa_cons (pv 3) (pa_cons (pe_gcl X_NotText.gC (by rfl)) pa_nil))) (pa_cons (pe_callB (call_isXg (K := K) rfl hz hf) (by rfl) c.b.isinstance (by decide +kernel) (pa_cons (pv 3) (pa_cons (pe_gcl X_BadProgram.gC (by rfl)) pa_nil))) (pa_cons (pe_callB (call_isXg (K := K) rfl hz hf) (by rfl) c.b.isinstance (by decide +kernel) (pa_cons (pv 3) (pa_cons (pe_gcl X_TooMany.gC (by rfl)) pa_nil))) pa_nil))))))
    (pss_cons (ps_set (i := 4) scTold.nd rfl (Or.inl rfl) (pe_op op_cat (pv 4) (pe_lst (pa_cons (pe_callB (call_isXg (K := K) rfl hz hf) (by rfl) c.b.isinstance (by decide +kernel) (pa_cons (pv 3) (pa_cons (pe_gcl X_NoFunction.gC (by rfl)) pa_nil))) (pa_cons (pe_callB (call_isXg (K := K) rfl hz hf) (by rfl) c.b.isinstance (by decide +kernel) (pa_cons (pv 3) (pa_cons (pe_gcl X_Stopped.gC (by rfl)) pa_nil))) (pa_cons (pe_callB (call_isXg (K := K) rfl hz hf) (by rfl) c.b.isinstance (by decide +kernel) (pa_cons (pv 3) (pa_cons (pe_gcl X_NoTaker.gC (by rfl)) pa_nil))) pa_nil))))))
    (pss_cons (ps_set (i := 4) scTold.nd rfl (Or.inl rfl) (pe_op op_cat (pv 4) (pe_lst (pa_cons (pe_callB (call_isXg (K := K) rfl hz hf) (by rfl) c.b.isinstance (by decide +kernel) (pa_cons (pv 3) (pa_cons (pe_gcl X_BadFate.gC (by rfl)) pa_nil))) (pa_cons (pe_callB (call_isXg (K := K) rfl hz hf) (by rfl) c.b.isinstance (by decide +kernel) (pa_cons (pv 3) (pa_cons (pe_gcl X_BadSpot.gC (by rfl)) pa_nil))) (pa_cons (pe_callB (call_isXg (K := K) rfl hz hf) (by rfl) c.b.isinstance (by decide +kernel) (pa_cons (pv 3) (pa_cons (pe_bltn (v := .ty "ValueError") (by rfl) c.b.ValueError (by decide +kernel) rfl) pa_nil))) pa_nil))))))
    (pss_cons (ps_if (pt_cmpR op_lt (pv 0) pe_int (nomark _)) (pss_one (ps_ret (pe_tup (pa_cons (pv 4) (pa_cons (pe_lst (pa_cons (pe_xg (K := K) rfl hz hf (pv 3)) pa_nil)) pa_nil))))) pss_nil)
    (pss_cons (ps_if (pt_cmpR (op_in_seqK (K := K) rfl) (pv 0) (pe_lst (pa_cons pe_int (pa_cons pe_int (pa_cons pe_int pa_nil)))) (by rfl)) (pss_one (ps_ret (pe_tup (pa_cons (pv 4) (pa_cons (pe_lst (pa_cons (pe_xg (K := K) rfl hz hf (pv 3)) pa_nil)) pa_nil))))) pss_nil)
    (pss_cons (ps_if (pt_cmpR (op_in_seqK (K := K) rfl) (pv 0) (pe_lst (pa_cons pe_int (pa_cons pe_int pa_nil))) (by rfl)) (pss_one (ps_ret (pe_tup (pa_cons (pv 4) (pa_cons (pe_lst (pa_cons (pe_xg (K := K) rfl hz hf (pv 3)) pa_nil)) pa_nil))))) pss_nil)
    (pss_cons (ps_if (pt_cmpR op_eq (pv 0) pe_int (nomark _)) (pss_one (ps_ret (pe_tup (pa_cons (pv 4) (pa_cons (pe_lst (pa_cons (pe_xg (K := K) rfl hz hf (pv 3)) (pa_cons (pe_xg (K := K) rfl hz hf (pv 3)) pa_nil))) pa_nil))))) pss_nil)
    (pss_cons (ps_if (pt_cmpR op_eq (pv 0) pe_int (nomark _)) (pss_one (ps_ret (pe_tup (pa_cons (pv 4) (pa_cons (pe_lst (pa_cons (pe_xg (K := K) rfl hz hf (pv 3)) pa_nil)) pa_nil))))) pss_nil)
    (pss_cons (ps_if (pt_cmpR op_eq (pv 0) pe_int (nomark _)) (pss_one (ps_ret (pe_tup (pa_cons (pv 4) (pa_cons (pe_lst (pa_cons (pe_xg (K := K) rfl hz hf (pv 3)) pa_nil)) pa_nil))))) pss_nil)
    (pss_one (ps_ret (pe_tup (pa_cons (pv 4) (pa_cons (pe_ifExp (pt_cmpR op_eq (pv 0) pe_int (nomark _)) (pe_lst (pa_cons (pe_xg (K := K) rfl hz hf (pv 3)) pa_nil)) (pe_lst pa_nil)) pa_nil)))))))))))))))))
    (pss_one (ps_ret (pe_tup (pa_cons (pe_lst pa_nil) (pa_cons (pe_lst pa_nil) pa_nil)))))), ?_⟩
  refine ⟨_, rfl, _, rfl, _, rfl, n, v, u, rfl, hn, fun dd H1 sm ly => ⟨true, T.exm n hn, fun _ a0 ha0 => ?_, fun z => Bool.noConfusion z⟩⟩
  refine ⟨_, rfl, isx (j := 0) T hn (by decide) (ly.xd (Same.refl _)) ⟨_, rfl, isx (j := 1) T hn (by decide) (ly.xd (Same.refl _)) ⟨_, rfl, isx (j := 2) T hn (by decide) (ly.xd (Same.refl _)) ⟨_, rfl, isx (j := 3) T hn (by decide) (ly.xd (Same.refl _)) ⟨(by show 4 ≤ sizeLine; decide), fun l1 h1 => ?_⟩⟩⟩⟩⟩
  have s1 := same_new h1 (.lst [.bl (decide (n = 0)), .bl (decide (n = 1)), .bl (decide (n = 2)), .bl (decide (n = 3))])
  refine ⟨_, rfl, ⟨_, rfl, isx (j := 4) T hn (by decide) (ly.xd s1) ⟨_, rfl, isx (j := 5) T hn (by decide) (ly.xd s1) ⟨_, rfl, isx (j := 6) T hn (by decide) (ly.xd s1) ⟨(by show 3 ≤ sizeLine; decide), fun l2 h2 => ⟨l1, l2, _, _, rfl, rfl, (same_new h2 _ _ _ upd_same), upd_same, (by show 7 ≤ sizeLine; decide), fun l3 h3 => ?_⟩⟩⟩⟩⟩⟩
  have t2 := same_new h2 (.lst [.bl (decide (n = 4)), .bl (decide (n = 5)), .bl (decide (n = 6))])
  have t3 := same_new h3 (.lst ([.bl (decide (n = 0)), .bl (decide (n = 1)), .bl (decide (n = 2)), .bl (decide (n = 3))] ++ [.bl (decide (n = 4)), .bl (decide (n = 5)), .bl (decide (n = 6))]))
  have s3 := s1.trans (t2.trans t3)
  refine ⟨_, rfl, ⟨_, rfl, isx (j := 7) T hn (by decide) (ly.xd s3) ⟨_, rfl, isx (j := 8) T hn (by decide) (ly.xd s3) ⟨_, rfl, isx (j := 9) T hn (by decide) (ly.xd s3) ⟨(by show 3 ≤ sizeLine; decide), fun l4 h4 => ⟨l3, l4, _, _, rfl, rfl, (same_new h4 _ _ _ upd_same), upd_same, (by show 10 ≤ sizeLine; decide), fun l5 h5 => ?_⟩⟩⟩⟩⟩⟩
  have t4 := same_new h4 (.lst [.bl (decide (n = 7)), .bl (decide (n = 8)), .bl (decide (n = 9))])
  have t5 := same_new h5 (.lst (([.bl (decide (n = 0)), .bl (decide (n = 1)), .bl (decide (n = 2)), .bl (decide (n = 3))] ++ [.bl (decide (n = 4)), .bl (decide (n = 5)), .bl (decide (n = 6))]) ++ [.bl (decide (n = 7)), .bl (decide (n = 8)), .bl (decide (n = 9))]))
  have s5 := s3.trans (t4.trans t5)
  refine ⟨_, rfl, ⟨_, rfl, isx (j := 10) T hn (by decide) (ly.xd s5) ⟨_, rfl, isx (j := 11) T hn (by decide) (ly.xd s5) ⟨_, rfl, isv T hn (ly.xd s5) ⟨(by show 3 ≤ sizeLine; decide), fun l6 h6 => ⟨l5, l6, _, _, rfl, rfl, (same_new h6 _ _ _ upd_same), upd_same, (by show 13 ≤ sizeLine; decide), fun l7 h7 => ?_⟩⟩⟩⟩⟩⟩
  have t6 := same_new h6 (.lst [.bl (decide (n = 10)), .bl (decide (n = 11)), .bl true])
  have t7 := same_new h7 (.lst ((([.bl (decide (n = 0)), .bl (decide (n = 1)), .bl (decide (n = 2)), .bl (decide (n = 3))] ++ [.bl (decide (n = 4)), .bl (decide (n = 5)), .bl (decide (n = 6))]) ++ [.bl (decide (n = 7)), .bl (decide (n = 8)), .bl (decide (n = 9))]) ++ [.bl (decide (n = 10)), .bl (decide (n = 11)), .bl true]))
  have s7 := s5.trans (t6.trans t7)
  have fin : ∀ (ws : List V) (es : List PyData) (H2 : Hp), Same H H2 → H2 l7 = some (.lst (kindsV n)) → DpAll K H2 ws es → es = dueD n d1 d2 → ws.length ≤ sizeLine →
      (ws.length ≤ sizeLine ∧ ∀ r, H2 r = none → (([.ref l7, .ref r] : List V).length ≤ sizeLine ∧ ∀ t, (upd H2 r (.lst ws)) t = none → Q (.ref t) (upd (upd H2 r (.lst ws)) t (.tup [.ref l7, .ref r])))) := by
    intro ws es H2 sm2 hk hw ee wl2
    refine ⟨wl2, fun r hr => ⟨(by show 2 ≤ sizeLine; decide), fun t ht => q _ _ ((sm2.trans (same_new hr _)).trans (same_new ht _)) ?_⟩⟩
    have b1 := (same_new hr (.lst ws)).trans (same_new ht (.tup [.ref l7, .ref r]))
    refine .tup (SqT.of upd_same) (.cons (.lst (SqL.of (b1 _ _ hk)) (kinds_dp n)) (.cons (.lst (SqL.of (same_new ht _ _ _ upd_same)) ?_) .nil))
    rw [← ee]
    exact dpAll_mono b1 _ _ hw
  have sH := sm.trans s7
  have leaf : ∀ (f : Str) (x : V) (dx : PyData) (H2 : Hp), Same H H2 → Same H1 H2 → H2 l7 = some (.lst (kindsV n)) → XfC K (Cs n) → PySem.W.findIn K (.ref (Cs n)) f = some none → n ≠ 2 → (fl n v u).lookup f = some x → Dp K H x dx → [dx] = dueD n d1 d2 →
      ∃ C, XfC K C ∧ PySem.W.findIn K (.ref C) f = some none ∧ (∃ y, some (some (V.ref a0)) = some (some y) ∧ (y = .ref a0 ∧ Value.ref (Cs n) = .ref C ∧ ∃ (d3 : Addr) (fs : List (Str × V)) (z : V), dd = some d3 ∧ H2 d3 = some (.xd fs) ∧ fs.lookup f = some z ∧
        (([z] : List V).length ≤ sizeLine ∧ ∀ r, H2 r = none → (([.ref l7, .ref r] : List V).length ≤ sizeLine ∧ ∀ t, (upd H2 r (.lst [z])) t = none → Q (.ref t) (upd (upd H2 r (.lst [z])) t (.tup [.ref l7, .ref r])))))) := by
    intro f x dx H2 a1 a2 a3 a4 a5 a6 a7 a8 a9
    rcases ly with ⟨z, _⟩ | ⟨_, d3, e1, e2⟩
    · exact absurd z a6
    · exact ⟨Cs n, a4, a5, _, rfl, rfl, rfl, d3, _, x, e1, a2 _ _ e2, a7, fin [x] [dx] H2 a1 a3 (.cons (dp_mono a1 _ _ a8) .nil) a9 (by show 1 ≤ sizeLine; decide)⟩
  have dn : ∀ k, n = k → k ≠ 2 → k ≠ 8 → [d1] = dueD n d1 d2 := fun k e h1 h2 => by rw [e]; unfold dueD; rw [if_neg h1, if_neg h2]
  refine ⟨_, rfl, _, _, rfl, rfl, _, rfl, ite2 (fun lt => ?_) (fun g2 => ?_)⟩
  · have lt' : (n : Int) < 2 := of_decide_eq_true lt
    have h01 : n = 0 ∨ n = 1 := by omega
    refine ⟨_, rfl, ?_⟩
    rcases h01 with rfl | rfl
    · exact leaf "place" v d1 _ sH s7 upd_same T.e0.xf T.e0.noF (by decide) rfl hv rfl
    · exact leaf "place" v d1 _ sH s7 upd_same T.e1.xf T.e1.noF (by decide) rfl hv rfl
  have g2' : ¬ (n : Int) < 2 := fun z => g2 (decide_eq_true z)
  refine ⟨_, rfl, (by show 3 ≤ sizeLine; decide), fun m1 hm1 => ⟨m1, _, rfl, .inl (SqL.of upd_same), rfl, rfl, _, rfl, ite2 (fun z => ?_) (fun z => ?_)⟩⟩
  · have h3 : n = 3 ∨ n = 4 ∨ n = 10 := by
      simp [inV, eqV] at z
      omega
    have u1 := same_new hm1 (.lst [.int 3, .int 4, .int 10])
    refine ⟨_, rfl, ?_⟩
    rcases h3 with rfl | rfl | rfl
    · exact leaf "at" v d1 _ (sH.trans u1) (s7.trans u1) (u1 _ _ upd_same) T.e3.xf T.e3.noF (by decide) rfl hv rfl
    · exact leaf "at" v d1 _ (sH.trans u1) (s7.trans u1) (u1 _ _ upd_same) T.e4.xf T.e4.noF (by decide) rfl hv rfl
    · exact leaf "at" v d1 _ (sH.trans u1) (s7.trans u1) (u1 _ _ upd_same) T.e10.xf T.e10.noF (by decide) rfl hv rfl
  have n3 : n ≠ 3 ∧ n ≠ 4 ∧ n ≠ 10 := by
    simp [inV, eqV] at z
    omega
  have u1 := same_new hm1 (.lst [.int 3, .int 4, .int 10])
  refine ⟨_, rfl, (by show 2 ≤ sizeLine; decide), fun m2 hm2 => ⟨m2, _, rfl, .inl (SqL.of upd_same), rfl, rfl, _, rfl, ite2 (fun z => ?_) (fun z => ?_)⟩⟩
  · have h3 : n = 7 ∨ n = 9 := by
      simp [inV, eqV] at z
      omega
    have u2 := u1.trans (same_new hm2 (.lst [.int 7, .int 9]))
    refine ⟨_, rfl, ?_⟩
    rcases h3 with rfl | rfl
    · exact leaf "name" v d1 _ (sH.trans u2) (s7.trans u2) (u2 _ _ upd_same) T.e7.xf T.e7.noF (by decide) rfl hv rfl
    · exact leaf "name" v d1 _ (sH.trans u2) (s7.trans u2) (u2 _ _ upd_same) T.e9.xf T.e9.noF (by decide) rfl hv rfl
  have n7 : n ≠ 7 ∧ n ≠ 9 := by
    simp [inV, eqV] at z
    omega
  have u2 := u1.trans (same_new hm2 (.lst [.int 7, .int 9]))
  have sH2 := sH.trans u2
  have s72 := s7.trans u2
  have k2 := u2 _ _ upd_same
  refine ⟨_, rfl, rfl, _, rfl, ifI (fun e => ?_) (fun n8 => ?_)⟩
  · obtain rfl : n = 8 := by omega
    rcases ly with ⟨z, _⟩ | ⟨_, d3, e1, e2⟩
    · cases z
    refine ⟨_, rfl, Cs 8, ⟨T.e8.exc.hg, T.e8.exc.hk, T.e8.exc.hs, T.e8.exc.hd⟩, T.e8.noF, _, rfl, rfl, rfl, d3, _, v, e1, s72 _ _ e2, rfl, Cs 8, ⟨T.e8.exc.hg, T.e8.exc.hk, T.e8.exc.hs, T.e8.exc.hd⟩, T.e8.noG, _, rfl, rfl, rfl, d3, _, u, e1, s72 _ _ e2, rfl, ?_⟩
    exact fin [v, u] [d1, d2] _ sH2 k2 (.cons (dp_mono sH2 _ _ hv) (.cons (dp_mono sH2 _ _ hu) .nil)) rfl (by show 2 ≤ sizeLine; decide)
  refine ⟨_, rfl, rfl, _, rfl, ifI (fun e => ?_) (fun n5 => ?_)⟩
  · obtain rfl : n = 5 := by omega
    exact ⟨_, rfl, leaf "line" v d1 _ sH2 s72 k2 T.e5.xf T.e5.noF (by decide) rfl hv rfl⟩
  refine ⟨_, rfl, rfl, _, rfl, ifI (fun e => ?_) (fun n6 => ?_)⟩
  · obtain rfl : n = 6 := by omega
    exact ⟨_, rfl, leaf "what" v d1 _ sH2 s72 k2 T.e6.xf T.e6.noF (by decide) rfl hv rfl⟩
  refine ⟨_, rfl, _, rfl, rfl, _, rfl, ifI (fun e => ?_) (fun n11 => ?_)⟩
  · obtain rfl : n = 11 := by omega
    exact leaf "spot" v d1 _ sH2 s72 k2 T.e11.xf T.e11.noF (by decide) rfl hv rfl
  · obtain rfl : n = 2 := by omega
    exact fin [] [] _ sH2 k2 .nil rfl (by show 0 ≤ sizeLine; decide)
end
end Tx

namespace Tx
open PySem PySem.Spec PyProof.Rows L2
def spLaw (K : PySem.W.Frag) : Sp := fun vs H Q _ => ∃ (a : Addr) (ns : List Int), vs = [.ref a] ∧ SqL K H a (ns.map V.int) ∧ ns.length ≤ 63 ∧ ∀ H', Q (.bl true) H'
theorem kinds_ok (n : Nat) : fineAll (kindsD n) = true ∧ PyData.depthAll (kindsD n) = 0 ∧ wtAll (kindsD n) = 91 := by
  unfold kindsD
  simp [fineAll, fine, PyData.depthAll, PyData.depth, wtAll, wt]
theorem all_ok {n : Nat} {d1 d2 : PyData} (h1 : Thing 2 6000 d1) (h2 : Thing 2 6000 d2) : Ok (.tuple [.list (kindsD n), .list (dueD n d1 d2)]) := by
  obtain ⟨k1, k2, k3⟩ := kinds_ok n
  have f1 := h1.fine
  have f2 := h2.fine
  have a1 := h1.deep
  have a2 := h2.deep
  have b1 := h1.wt
  have b2 := h2.wt
  have e : fineAll (dueD n d1 d2) = true ∧ PyData.depthAll (dueD n d1 d2) ≤ 2 ∧ wtAll (dueD n d1 d2) ≤ 12004 := by
    unfold dueD
    split
    · simp [fineAll, PyData.depthAll, wtAll]
    · split
      · simp only [fineAll, f1, f2, PyData.depthAll, wtAll]; exact ⟨rfl, by omega, by omega⟩
      · simp only [fineAll, f1, PyData.depthAll, wtAll]; exact ⟨rfl, by omega, by omega⟩
  refine ⟨?_, ?_, ?_⟩
  · simp only [fine, fineAll, k1, e.1, Bool.and_self]
  · simp only [PyData.depth, PyData.depthAll]; omega
  · simp only [wt, wtAll]; omega
theorem dec_eq (k n : Nat) : decide (V.int (0 + (k : Int)) = V.int (n : Int)) = decide (n = k) := by
  by_cases h : n = k
  · rw [decide_eq_true h, h]; exact decide_eq_true (by rw [Int.zero_add])
  · rw [decide_eq_false h]; exact decide_eq_false fun z => h (by injection z with z; omega)
section
variable {P : Program} {w : World} {K : PySem.W.Frag} {mg : Str → Option Value} {base : Heap}
theorem d_law (h : Has K mg "law" sLaw) (B : Bi mg) (D_law_bag : Dfn P w K mg base CX0 1 "_law_bag" ["_law_script", "_law_at"] (spBag K)) (D_law_field : Dfn P w K mg base CX0 2 "_law_field" ["_law_bag_here"] (spField K)) (D_law_told : Dfn P w K mg base CX0 6 "_law_told" ["_law_number", "_law_one", "_law_two"] (spTold K)) :
    Dfn P w K mg base CX0 7 "law" ["_law_script"] (spLaw K) := by
  refine dfn0 (k := 6) h B scLaw (fun _ _ _ _ _ _ us hl => match us, hl with | [_], _ => rfl) (fun vs H Q E h => ?_) (fun f cv A out s H vs Q E c h => ?_)
  · obtain ⟨a, ns, rfl, _⟩ := h
    rfl
  obtain ⟨a, ns, rfl, hS, h63, q⟩ := h
  refine ⟨_, (pss_cons (ps_for PassesOwn.never rfl (pi_range1 (by rfl) c.b.range (pa_cons (pe_callB (call_max2 rfl) (by rfl) c.b.max (by decide +kernel) (pa_cons pe_int (pa_cons (pe_callB (call_min2 rfl) (by rfl) c.b.min (by decide +kernel) (pa_cons pe_int (pa_cons (pe_callB call_len_seq (by rfl) c.b.len PySem.boot_len (pa_cons (pv 0) pa_nil)) pa_nil))) pa_nil))) pa_nil)) (pg_name (i := 1) scLaw.nd rfl (Or.inl rfl))
    (pss_cons (ps_set (i := 2) scLaw.nd rfl (Or.inl rfl) (pe_d D_law_bag c (by omega) (by rfl) (pa_cons (pv 0) (pa_cons (pv 1) pa_nil))))
    (pss_one (ps_for PassesOwn.never rfl (pi_range1 (by rfl) c.b.range (pa_cons pe_int pa_nil)) (pg_name (i := 3) scLaw.nd rfl (Or.inr rfl))
    (pss_cons (ps_par (i := 6) (j := 7) rfl scLaw.nd rfl rfl (by decide) rfl rfl (pa_cons (pe_d D_law_field c (by omega) (by rfl) (pa_cons (pv 2) pa_nil)) (pa_cons (pe_d D_law_field c (by omega) (by rfl) (pa_cons (pv 2) pa_nil)) pa_nil)) (by rfl))
    (pss_cons (ps_set (i := 4) scLaw.nd rfl (Or.inl rfl) (pe_op op_cat (pe_lst (pa_cons (pv 6) pa_nil)) (pe_ifExp (pt_cmpR op_eq (pv 3) pe_int (nomark _)) (pe_lst (pa_cons (pv 7) pa_nil)) (pe_lst pa_nil))))
    (pss_cons (ps_if (pt_cmpR op_eq (pv 3) pe_int (nomark _)) (pss_one (ps_set (i := 4) scLaw.nd rfl (Or.inl rfl) (pe_lst pa_nil))) pss_nil)
    (pss_cons (ps_set (i := 5) scLaw.nd rfl (Or.inl rfl) (pe_op op_cat (pe_lc (own := [("_law_k", 8)]) (g := (gName 8)) (tt := tYes) rfl scLaw.nd (pi_range1 (by rfl) c.b.range (pa_cons pe_int pa_nil)) (blkOk_by (own := [("_law_k", 8)]) (N := ["_law_script", "_law_at", "_law_bag_here", "_law_number", "_law_due", "_law_kinds", "_law_one", "_law_two", "_law_k"]) (sc := defScope sLaw) (by decide +kernel)) (fun _ _ _ _ _ => (pg_name (i := 8) scLaw.nd rfl (Or.inl rfl))) (fun _ _ _ _ _ => pts_nil) (fun _ _ _ _ _ => (pe_cmpR op_eq (pv 8) (pv 3) (nomark _)))) (pe_lst (pa_cons pe_bl pa_nil))))
    (pss_one (ps_if (pt_cmpR op_ne (pe_callB (call_repr c.g c.r.units) (by rfl) c.b.repr (by decide +kernel) (pa_cons (pe_d D_law_told c (by omega) (by rfl) (pa_cons (pv 3) (pa_cons (pv 6) (pa_cons (pv 7) pa_nil)))) pa_nil)) (pe_callB (call_repr c.g c.r.units) (by rfl) c.b.repr (by decide +kernel) (pa_cons (pe_tup (pa_cons (pv 5) (pa_cons (pv 4) pa_nil))) pa_nil)) (nomark _)) (pss_one (ps_ret pe_bl)) pss_nil))))))))))
    (pss_one (ps_ret pe_bl))), ?_⟩
  have hl : (ns.map V.int).length = ns.length := List.length_map _
  refine ⟨_, rfl, a, _, rfl, .inl hS, _, _, rfl, _, _, rfl, _, rfl, ?_, ?_, ?_⟩
  · split <;> (try split) <;> omega
  · split <;> (try split) <;> omega
  refine for_range (lo := 0) (fun i σ H' => ∃ u1 u2 u3 u4 u5 u6 u7 u8 : Option V, σ = [some (.ref a), u1, u2, u3, u4, u5, u6, u7, u8] ∧ Same H H') ⟨none, none, none, none, none, none, none, none, rfl, Same.refl _⟩ ?_ ?_
  · rintro i σ H0 hi ⟨u1, u2, u3, u4, u5, u6, u7, u8, rfl, s0⟩
    have i9 : i < 9 := by
      rw [hl] at hi
      split at hi <;> (try split at hi) <;> omega
    refine ⟨_, rfl, _, rfl, a, ns, _, rfl, s0.seq hS, by omega, by omega, fun b H1 s1 hb0 hB => ?_⟩
    have hb : H b = none := s0.free hb0
    have b1 : b ∈ [b] := by simp
    have keep : ∀ {H' H'' : Hp}, Same H H' → Stp b H' H'' → Same H H'' := fun h1 h2 a o e => h2.keep a o (ne_of_none e hb) (h1 a o e)
    refine ⟨12, rfl, by decide, by decide, ?_⟩
    refine for_range (lo := 0) (n := 12) (fun i σ H' => ∃ u1 u3 u4 u5 u6 u7 u8 : Option V, σ = [some (.ref a), u1, some (.ref b), u3, u4, u5, u6, u7, u8] ∧ Same H H' ∧ Bag H' b) ⟨_, _, _, _, _, _, _, rfl, s0.trans s1, hB⟩ ?_ ?_
    · rintro n σ H2 hn ⟨u1, u3, u4, u5, u6, u7, u8, rfl, s2, hB2⟩
      refine ⟨_, rfl, b, [b], rfl, hB2, b1, hB2.there, fun v1 d1 H3 st3 hd1 th1 => ?_⟩
      refine ⟨_, rfl, b, [b], rfl, st3.bag, b1, st3.bag.there, fun v2 d2 H4 st4 hd2 th2 => ⟨_, _, rfl, ?_⟩⟩
      have s4 : Same H H4 := keep (keep s2 st3) st4
      have hv1 : Dp K H4 v1 d1 := (hd1.to (st4.hide b1)).dp
      have hv2 : Dp K H4 v2 d2 := hd2.dp
      have ok := all_ok (n := n) th1 th2
      have nn : (0 : Int) + (n : Int) = (n : Int) := Int.zero_add _
      refine ⟨_, rfl, (by show 1 ≤ sizeLine; decide), fun p1 h1 => ⟨_, rfl, rfl, _, rfl, ifI (fun e8 => ?two) (fun e8 => ?one)⟩⟩
      case' two =>
        refine ⟨_, rfl, (by show 1 ≤ sizeLine; decide), fun p2 h2 => ⟨p1, p2, _, _, rfl, rfl, same_new h2 _ _ _ upd_same, upd_same, (by show 2 ≤ sizeLine; decide), fun p3 h3 => ?_⟩⟩
        refine ⟨_, rfl, rfl, _, rfl, ifI (fun e2 => absurd e8 (by omega)) (fun e2 => ?_)⟩
        have sD := ((same_new h1 (.lst [v1])).trans (same_new h2 (.lst [v2]))).trans (same_new h3 (.lst ([v1] ++ [v2])))
        have hD := upd_same (H := upd (upd H4 p1 (.lst [v1])) p2 (.lst [v2])) (a := p3) (o := .lst ([v1] ++ [v2]))
        have dD : DpAll K (upd (upd (upd H4 p1 (.lst [v1])) p2 (.lst [v2])) p3 (.lst ([v1] ++ [v2]))) ([v1] ++ [v2]) (dueD n d1 d2) := by
          have : dueD n d1 d2 = [d1, d2] := by unfold dueD; rw [if_neg (by omega), if_pos (by omega)]
          rw [this]
          exact .cons (dp_mono sD _ _ hv1) (.cons (dp_mono sD _ _ hv2) .nil)
      case' one =>
        refine ⟨(by show 0 ≤ sizeLine; decide), fun p2 h2 => ⟨p1, p2, _, _, rfl, rfl, same_new h2 _ _ _ upd_same, upd_same, (by show 1 ≤ sizeLine; decide), fun p3 h3 => ?_⟩⟩
        refine ⟨_, rfl, rfl, _, rfl, ifI (fun e2 => ?nixx) (fun e2 => ?solo)⟩
      case' solo =>
        have sD := ((same_new h1 (.lst [v1])).trans (same_new h2 (.lst []))).trans (same_new h3 (.lst ([v1] ++ [])))
        have hD := upd_same (H := upd (upd H4 p1 (.lst [v1])) p2 (.lst [])) (a := p3) (o := .lst ([v1] ++ []))
        have dD : DpAll K (upd (upd (upd H4 p1 (.lst [v1])) p2 (.lst [])) p3 (.lst ([v1] ++ []))) ([v1] ++ []) (dueD n d1 d2) := by
          have : dueD n d1 d2 = [d1] := by unfold dueD; rw [if_neg (by omega), if_neg (by omega)]
          rw [this]
          exact .cons (dp_mono sD _ _ hv1) .nil
      case' nixx =>
        refine ⟨(by show 0 ≤ sizeLine; decide), fun p4 h4 => ?_⟩
        have sD := (((same_new h1 (.lst [v1])).trans (same_new h2 (.lst []))).trans (same_new h3 (.lst ([v1] ++ [])))).trans (same_new h4 (.lst []))
        have hD := upd_same (H := upd (upd (upd H4 p1 (.lst [v1])) p2 (.lst [])) p3 (.lst ([v1] ++ []))) (a := p4) (o := .lst [])
        have dD : DpAll K (upd (upd (upd (upd H4 p1 (.lst [v1])) p2 (.lst [])) p3 (.lst ([v1] ++ []))) p4 (.lst [])) [] (dueD n d1 d2) := by
          have : dueD n d1 d2 = [] := by unfold dueD; rw [if_pos (by omega)]
          rw [this]
          exact .nil
      all_goals
        refine ⟨12, rfl, by decide, by decide, fun L hL => ?_⟩
        refine lc_range (lo := 0) (n := 12) (fun i H' => ∃ us : List V, Same H4 H' ∧ Same _ H' ∧ H' L = some (.lst us) ∧ us = (List.range i).map fun (k : Nat) => V.bl (decide (n = k)))
          ⟨[], sD.trans (same_new hL _), same_new hL _, upd_same, rfl⟩ ?_ ?_
        · rintro i H6 hi ⟨us, a1, a2, a3, a4⟩
          refine ⟨rfl, _, rfl, _, rfl, rfl, us, a3, ?_, us ++ [_], fun b o e => ?_, fun b o e => ?_, upd_same, ?_⟩
          · rw [a4, List.length_map, List.length_range, sizeLine_eq]; omega
          · rw [upd_ne (ne_of_none (sD _ _ e) hL)]; exact a1 _ _ e
          · rw [upd_ne (ne_of_none e hL)]; exact a2 _ _ e
          · rw [a4, List.range_succ, List.map_append]
            show _ ++ [V.bl (decide (V.int (0 + (i : Int)) = V.int (0 + (n : Int))))] = _
            rw [nn, dec_eq]
            rfl
        · rintro H6 ⟨us, a1, a2, a3, a4⟩
          refine ⟨(by show 1 ≤ sizeLine; decide), fun p5 h5 => ⟨L, p5, us, _, rfl, rfl, same_new h5 _ _ _ a3, upd_same, (by rw [a4]; show 13 ≤ sizeLine; decide), fun p6 h6 => ?_⟩⟩
          have s6 := (same_new h5 (.lst [.bl true])).trans (same_new h6 (.lst (us ++ [.bl true])))
          have hv1' := dp_mono (a1.trans s6) _ _ hv1
          have hv2' := dp_mono (a1.trans s6) _ _ hv2
          refine ⟨_, rfl, _, rfl, _, rfl, n, v1, v2, d1, d2, (by rw [nn]; rfl), hn, hv1', hv2', fun z H7 s7 hz => ⟨z, _, rfl, hz, ok, ?_⟩⟩
          refine ⟨_, rfl, _, rfl, (by show 2 ≤ sizeLine; decide), fun t ht => ⟨.ref t, .tuple [.list (kindsD n), .list (dueD n d1 d2)], rfl, ?_, ok, rfl, _, rfl, iteNS rfl ?_⟩⟩
          · refine .tup (SqT.of upd_same) (.cons (.lst (SqL.of ((s7.trans (same_new ht _)) _ _ upd_same)) ?_) (.cons (.lst (SqL.of ((a2.trans (s6.trans (s7.trans (same_new ht _)))) _ _ hD)) (dpAll_mono (a2.trans (s6.trans (s7.trans (same_new ht _)))) _ _ dD)) .nil))
            rw [a4]
            exact kinds_dp n
          · exact ⟨_, _, _, _, _, _, _, rfl, s4.trans (((a1.trans s6).trans s7).trans (same_new ht _)), (st4.bag).same (((a1.trans s6).trans s7).trans (same_new ht _))⟩
    · rintro σ H2 ⟨u1, u3, u4, u5, u6, u7, u8, rfl, s2, hB2⟩
      exact ⟨_, _, _, _, _, _, _, _, rfl, s2⟩
  · rintro σ H0 ⟨u1, u2, u3, u4, u5, u6, u7, u8, rfl, s0⟩
    exact q H0
end
end Tx

namespace Tx
open PySem PySem.Spec PyProof.Rows L2
abbrev sBadValue : Stmt := inClass (top 2) 0
theorem scBadValue : FnScope ["self", "place"] ["self", "place"] (defScope sBadValue) := ⟨rfl, rfl, rfl, by decide +kernel, rfl, by decide +kernel, by decide +kernel⟩
theorem ini_BadValue {P : Program} {w : World} {K : PySem.W.Frag} {mg : Str → Option Value} {base : Heap} {C fI : Addr} {oc kV dc pm cd ct : Value} {od an : Option Addr} {sl : Array (Option Value)}
    (l : K.lookup fI = some ⟨oc, od, .func (PySem.W.fnOf "__init__" "BadValue.__init__" (defArgs sBadValue) (defBody sBadValue) (defScope sBadValue) .none kV dc pm an cd ct), sl⟩) (c : PySem.W.codeIn K cd "BadValue.__init__" = true) (k : PySem.W.keepIn K (.ref fI) = true)
    (no : PySem.W.findIn K (.ref C) "place" = some none) (T : OexC K C) : FnOk P w K mg base CX0 1 fI (PySem.W.fnOf "__init__" "BadValue.__init__" (defArgs sBadValue) (defBody sBadValue) (defScope sBadValue) .none kV dc pm an cd ct) ["self", "place"] (spInit1 C "place") ∧ Binds K (PySem.W.fnOf "__init__" "BadValue.__init__" (defArgs sBadValue) (defBody sBadValue) (defScope sBadValue) .none kV dc pm an cd ct) ["self", "place"] [] := by
  have F := fun_mk (st := sBadValue) l c k
  refine ⟨F.ok scBadValue (fun vs H Q E h => ?_) (fun cv A out s H vs Q E hr h => ?_), F.binds fun _ _ _ _ _ _ us hl => match us, hl with | [_, _], _ => rfl⟩
  · obtain ⟨a, v, rfl, _⟩ := h
    rfl
  obtain ⟨a, v, rfl, ha, q⟩ := h
  exact ⟨_, pss_one (ps_ost (pv 0) (pv 1)), _, rfl, _, rfl, a, C, rfl, T, no, .inl ⟨ha, fun dx hx ne => q dx hx ne⟩⟩
abbrev sNoPlace : Stmt := inClass (top 3) 0
theorem scNoPlace : FnScope ["self", "place"] ["self", "place"] (defScope sNoPlace) := ⟨rfl, rfl, rfl, by decide +kernel, rfl, by decide +kernel, by decide +kernel⟩
theorem ini_NoPlace {P : Program} {w : World} {K : PySem.W.Frag} {mg : Str → Option Value} {base : Heap} {C fI : Addr} {oc kV dc pm cd ct : Value} {od an : Option Addr} {sl : Array (Option Value)}
    (l : K.lookup fI = some ⟨oc, od, .func (PySem.W.fnOf "__init__" "NoPlace.__init__" (defArgs sNoPlace) (defBody sNoPlace) (defScope sNoPlace) .none kV dc pm an cd ct), sl⟩) (c : PySem.W.codeIn K cd "NoPlace.__init__" = true) (k : PySem.W.keepIn K (.ref fI) = true)
    (no : PySem.W.findIn K (.ref C) "place" = some none) (T : OexC K C) : FnOk P w K mg base CX0 1 fI (PySem.W.fnOf "__init__" "NoPlace.__init__" (defArgs sNoPlace) (defBody sNoPlace) (defScope sNoPlace) .none kV dc pm an cd ct) ["self", "place"] (spInit1 C "place") ∧ Binds K (PySem.W.fnOf "__init__" "NoPlace.__init__" (defArgs sNoPlace) (defBody sNoPlace) (defScope sNoPlace) .none kV dc pm an cd ct) ["self", "place"] [] := by
  have F := fun_mk (st := sNoPlace) l c k
  refine ⟨F.ok scNoPlace (fun vs H Q E h => ?_) (fun cv A out s H vs Q E hr h => ?_), F.binds fun _ _ _ _ _ _ us hl => match us, hl with | [_, _], _ => rfl⟩
  · obtain ⟨a, v, rfl, _⟩ := h
    rfl
  obtain ⟨a, v, rfl, ha, q⟩ := h
  exact ⟨_, pss_one (ps_ost (pv 0) (pv 1)), _, rfl, _, rfl, a, C, rfl, T, no, .inl ⟨ha, fun dx hx ne => q dx hx ne⟩⟩
abbrev sNoEntry : Stmt := inClass (top 5) 0
theorem scNoEntry : FnScope ["self", "at"] ["self", "at"] (defScope sNoEntry) := ⟨rfl, rfl, rfl, by decide +kernel, rfl, by decide +kernel, by decide +kernel⟩
theorem ini_NoEntry {P : Program} {w : World} {K : PySem.W.Frag} {mg : Str → Option Value} {base : Heap} {C fI : Addr} {oc kV dc pm cd ct : Value} {od an : Option Addr} {sl : Array (Option Value)}
    (l : K.lookup fI = some ⟨oc, od, .func (PySem.W.fnOf "__init__" "NoEntry.__init__" (defArgs sNoEntry) (defBody sNoEntry) (defScope sNoEntry) .none kV dc pm an cd ct), sl⟩) (c : PySem.W.codeIn K cd "NoEntry.__init__" = true) (k : PySem.W.keepIn K (.ref fI) = true)
    (no : PySem.W.findIn K (.ref C) "at" = some none) (T : OexC K C) : FnOk P w K mg base CX0 1 fI (PySem.W.fnOf "__init__" "NoEntry.__init__" (defArgs sNoEntry) (defBody sNoEntry) (defScope sNoEntry) .none kV dc pm an cd ct) ["self", "at"] (spInit1 C "at") ∧ Binds K (PySem.W.fnOf "__init__" "NoEntry.__init__" (defArgs sNoEntry) (defBody sNoEntry) (defScope sNoEntry) .none kV dc pm an cd ct) ["self", "at"] [] := by
  have F := fun_mk (st := sNoEntry) l c k
  refine ⟨F.ok scNoEntry (fun vs H Q E h => ?_) (fun cv A out s H vs Q E hr h => ?_), F.binds fun _ _ _ _ _ _ us hl => match us, hl with | [_, _], _ => rfl⟩
  · obtain ⟨a, v, rfl, _⟩ := h
    rfl
  obtain ⟨a, v, rfl, ha, q⟩ := h
  exact ⟨_, pss_one (ps_ost (pv 0) (pv 1)), _, rfl, _, rfl, a, C, rfl, T, no, .inl ⟨ha, fun dx hx ne => q dx hx ne⟩⟩
abbrev sNotText : Stmt := inClass (top 6) 0
theorem scNotText : FnScope ["self", "at"] ["self", "at"] (defScope sNotText) := ⟨rfl, rfl, rfl, by decide +kernel, rfl, by decide +kernel, by decide +kernel⟩
theorem ini_NotText {P : Program} {w : World} {K : PySem.W.Frag} {mg : Str → Option Value} {base : Heap} {C fI : Addr} {oc kV dc pm cd ct : Value} {od an : Option Addr} {sl : Array (Option Value)}
    (l : K.lookup fI = some ⟨oc, od, .func (PySem.W.fnOf "__init__" "NotText.__init__" (defArgs sNotText) (defBody sNotText) (defScope sNotText) .none kV dc pm an cd ct), sl⟩) (c : PySem.W.codeIn K cd "NotText.__init__" = true) (k : PySem.W.keepIn K (.ref fI) = true)
    (no : PySem.W.findIn K (.ref C) "at" = some none) (T : OexC K C) : FnOk P w K mg base CX0 1 fI (PySem.W.fnOf "__init__" "NotText.__init__" (defArgs sNotText) (defBody sNotText) (defScope sNotText) .none kV dc pm an cd ct) ["self", "at"] (spInit1 C "at") ∧ Binds K (PySem.W.fnOf "__init__" "NotText.__init__" (defArgs sNotText) (defBody sNotText) (defScope sNotText) .none kV dc pm an cd ct) ["self", "at"] [] := by
  have F := fun_mk (st := sNotText) l c k
  refine ⟨F.ok scNotText (fun vs H Q E h => ?_) (fun cv A out s H vs Q E hr h => ?_), F.binds fun _ _ _ _ _ _ us hl => match us, hl with | [_, _], _ => rfl⟩
  · obtain ⟨a, v, rfl, _⟩ := h
    rfl
  obtain ⟨a, v, rfl, ha, q⟩ := h
  exact ⟨_, pss_one (ps_ost (pv 0) (pv 1)), _, rfl, _, rfl, a, C, rfl, T, no, .inl ⟨ha, fun dx hx ne => q dx hx ne⟩⟩
abbrev sBadProgram : Stmt := inClass (top 7) 0
theorem scBadProgram : FnScope ["self", "line"] ["self", "line"] (defScope sBadProgram) := ⟨rfl, rfl, rfl, by decide +kernel, rfl, by decide +kernel, by decide +kernel⟩
theorem ini_BadProgram {P : Program} {w : World} {K : PySem.W.Frag} {mg : Str → Option Value} {base : Heap} {C fI : Addr} {oc kV dc pm cd ct : Value} {od an : Option Addr} {sl : Array (Option Value)}
    (l : K.lookup fI = some ⟨oc, od, .func (PySem.W.fnOf "__init__" "BadProgram.__init__" (defArgs sBadProgram) (defBody sBadProgram) (defScope sBadProgram) .none kV dc pm an cd ct), sl⟩) (c : PySem.W.codeIn K cd "BadProgram.__init__" = true) (k : PySem.W.keepIn K (.ref fI) = true)
    (no : PySem.W.findIn K (.ref C) "line" = some none) (T : OexC K C) : FnOk P w K mg base CX0 1 fI (PySem.W.fnOf "__init__" "BadProgram.__init__" (defArgs sBadProgram) (defBody sBadProgram) (defScope sBadProgram) .none kV dc pm an cd ct) ["self", "line"] (spInit1 C "line") ∧ Binds K (PySem.W.fnOf "__init__" "BadProgram.__init__" (defArgs sBadProgram) (defBody sBadProgram) (defScope sBadProgram) .none kV dc pm an cd ct) ["self", "line"] [] := by
  have F := fun_mk (st := sBadProgram) l c k
  refine ⟨F.ok scBadProgram (fun vs H Q E h => ?_) (fun cv A out s H vs Q E hr h => ?_), F.binds fun _ _ _ _ _ _ us hl => match us, hl with | [_, _], _ => rfl⟩
  · obtain ⟨a, v, rfl, _⟩ := h
    rfl
  obtain ⟨a, v, rfl, ha, q⟩ := h
  exact ⟨_, pss_one (ps_ost (pv 0) (pv 1)), _, rfl, _, rfl, a, C, rfl, T, no, .inl ⟨ha, fun dx hx ne => q dx hx ne⟩⟩
abbrev sTooMany : Stmt := inClass (top 8) 0
theorem scTooMany : FnScope ["self", "what"] ["self", "what"] (defScope sTooMany) := ⟨rfl, rfl, rfl, by decide +kernel, rfl, by decide +kernel, by decide +kernel⟩
theorem ini_TooMany {P : Program} {w : World} {K : PySem.W.Frag} {mg : Str → Option Value} {base : Heap} {C fI : Addr} {oc kV dc pm cd ct : Value} {od an : Option Addr} {sl : Array (Option Value)}
    (l : K.lookup fI = some ⟨oc, od, .func (PySem.W.fnOf "__init__" "TooMany.__init__" (defArgs sTooMany) (defBody sTooMany) (defScope sTooMany) .none kV dc pm an cd ct), sl⟩) (c : PySem.W.codeIn K cd "TooMany.__init__" = true) (k : PySem.W.keepIn K (.ref fI) = true)
    (no : PySem.W.findIn K (.ref C) "what" = some none) (T : OexC K C) : FnOk P w K mg base CX0 1 fI (PySem.W.fnOf "__init__" "TooMany.__init__" (defArgs sTooMany) (defBody sTooMany) (defScope sTooMany) .none kV dc pm an cd ct) ["self", "what"] (spInit1 C "what") ∧ Binds K (PySem.W.fnOf "__init__" "TooMany.__init__" (defArgs sTooMany) (defBody sTooMany) (defScope sTooMany) .none kV dc pm an cd ct) ["self", "what"] [] := by
  have F := fun_mk (st := sTooMany) l c k
  refine ⟨F.ok scTooMany (fun vs H Q E h => ?_) (fun cv A out s H vs Q E hr h => ?_), F.binds fun _ _ _ _ _ _ us hl => match us, hl with | [_, _], _ => rfl⟩
  · obtain ⟨a, v, rfl, _⟩ := h
    rfl
  obtain ⟨a, v, rfl, ha, q⟩ := h
  exact ⟨_, pss_one (ps_ost (pv 0) (pv 1)), _, rfl, _, rfl, a, C, rfl, T, no, .inl ⟨ha, fun dx hx ne => q dx hx ne⟩⟩
abbrev sNoFunction : Stmt := inClass (top 9) 0
theorem scNoFunction : FnScope ["self", "name"] ["self", "name"] (defScope sNoFunction) := ⟨rfl, rfl, rfl, by decide +kernel, rfl, by decide +kernel, by decide +kernel⟩
theorem ini_NoFunction {P : Program} {w : World} {K : PySem.W.Frag} {mg : Str → Option Value} {base : Heap} {C fI : Addr} {oc kV dc pm cd ct : Value} {od an : Option Addr} {sl : Array (Option Value)}
    (l : K.lookup fI = some ⟨oc, od, .func (PySem.W.fnOf "__init__" "NoFunction.__init__" (defArgs sNoFunction) (defBody sNoFunction) (defScope sNoFunction) .none kV dc pm an cd ct), sl⟩) (c : PySem.W.codeIn K cd "NoFunction.__init__" = true) (k : PySem.W.keepIn K (.ref fI) = true)
    (no : PySem.W.findIn K (.ref C) "name" = some none) (T : OexC K C) : FnOk P w K mg base CX0 1 fI (PySem.W.fnOf "__init__" "NoFunction.__init__" (defArgs sNoFunction) (defBody sNoFunction) (defScope sNoFunction) .none kV dc pm an cd ct) ["self", "name"] (spInit1 C "name") ∧ Binds K (PySem.W.fnOf "__init__" "NoFunction.__init__" (defArgs sNoFunction) (defBody sNoFunction) (defScope sNoFunction) .none kV dc pm an cd ct) ["self", "name"] [] := by
  have F := fun_mk (st := sNoFunction) l c k
  refine ⟨F.ok scNoFunction (fun vs H Q E h => ?_) (fun cv A out s H vs Q E hr h => ?_), F.binds fun _ _ _ _ _ _ us hl => match us, hl with | [_, _], _ => rfl⟩
  · obtain ⟨a, v, rfl, _⟩ := h
    rfl
  obtain ⟨a, v, rfl, ha, q⟩ := h
  exact ⟨_, pss_one (ps_ost (pv 0) (pv 1)), _, rfl, _, rfl, a, C, rfl, T, no, .inl ⟨ha, fun dx hx ne => q dx hx ne⟩⟩
abbrev sNoTaker : Stmt := inClass (top 11) 0
theorem scNoTaker : FnScope ["self", "name"] ["self", "name"] (defScope sNoTaker) := ⟨rfl, rfl, rfl, by decide +kernel, rfl, by decide +kernel, by decide +kernel⟩
theorem ini_NoTaker {P : Program} {w : World} {K : PySem.W.Frag} {mg : Str → Option Value} {base : Heap} {C fI : Addr} {oc kV dc pm cd ct : Value} {od an : Option Addr} {sl : Array (Option Value)}
    (l : K.lookup fI = some ⟨oc, od, .func (PySem.W.fnOf "__init__" "NoTaker.__init__" (defArgs sNoTaker) (defBody sNoTaker) (defScope sNoTaker) .none kV dc pm an cd ct), sl⟩) (c : PySem.W.codeIn K cd "NoTaker.__init__" = true) (k : PySem.W.keepIn K (.ref fI) = true)
    (no : PySem.W.findIn K (.ref C) "name" = some none) (T : OexC K C) : FnOk P w K mg base CX0 1 fI (PySem.W.fnOf "__init__" "NoTaker.__init__" (defArgs sNoTaker) (defBody sNoTaker) (defScope sNoTaker) .none kV dc pm an cd ct) ["self", "name"] (spInit1 C "name") ∧ Binds K (PySem.W.fnOf "__init__" "NoTaker.__init__" (defArgs sNoTaker) (defBody sNoTaker) (defScope sNoTaker) .none kV dc pm an cd ct) ["self", "name"] [] := by
  have F := fun_mk (st := sNoTaker) l c k
  refine ⟨F.ok scNoTaker (fun vs H Q E h => ?_) (fun cv A out s H vs Q E hr h => ?_), F.binds fun _ _ _ _ _ _ us hl => match us, hl with | [_, _], _ => rfl⟩
  · obtain ⟨a, v, rfl, _⟩ := h
    rfl
  obtain ⟨a, v, rfl, ha, q⟩ := h
  exact ⟨_, pss_one (ps_ost (pv 0) (pv 1)), _, rfl, _, rfl, a, C, rfl, T, no, .inl ⟨ha, fun dx hx ne => q dx hx ne⟩⟩
abbrev sBadFate : Stmt := inClass (top 12) 0
theorem scBadFate : FnScope ["self", "at"] ["self", "at"] (defScope sBadFate) := ⟨rfl, rfl, rfl, by decide +kernel, rfl, by decide +kernel, by decide +kernel⟩
theorem ini_BadFate {P : Program} {w : World} {K : PySem.W.Frag} {mg : Str → Option Value} {base : Heap} {C fI : Addr} {oc kV dc pm cd ct : Value} {od an : Option Addr} {sl : Array (Option Value)}
    (l : K.lookup fI = some ⟨oc, od, .func (PySem.W.fnOf "__init__" "BadFate.__init__" (defArgs sBadFate) (defBody sBadFate) (defScope sBadFate) .none kV dc pm an cd ct), sl⟩) (c : PySem.W.codeIn K cd "BadFate.__init__" = true) (k : PySem.W.keepIn K (.ref fI) = true)
    (no : PySem.W.findIn K (.ref C) "at" = some none) (T : OexC K C) : FnOk P w K mg base CX0 1 fI (PySem.W.fnOf "__init__" "BadFate.__init__" (defArgs sBadFate) (defBody sBadFate) (defScope sBadFate) .none kV dc pm an cd ct) ["self", "at"] (spInit1 C "at") ∧ Binds K (PySem.W.fnOf "__init__" "BadFate.__init__" (defArgs sBadFate) (defBody sBadFate) (defScope sBadFate) .none kV dc pm an cd ct) ["self", "at"] [] := by
  have F := fun_mk (st := sBadFate) l c k
  refine ⟨F.ok scBadFate (fun vs H Q E h => ?_) (fun cv A out s H vs Q E hr h => ?_), F.binds fun _ _ _ _ _ _ us hl => match us, hl with | [_, _], _ => rfl⟩
  · obtain ⟨a, v, rfl, _⟩ := h
    rfl
  obtain ⟨a, v, rfl, ha, q⟩ := h
  exact ⟨_, pss_one (ps_ost (pv 0) (pv 1)), _, rfl, _, rfl, a, C, rfl, T, no, .inl ⟨ha, fun dx hx ne => q dx hx ne⟩⟩
abbrev sBadSpot : Stmt := inClass (top 13) 0
theorem scBadSpot : FnScope ["self", "spot"] ["self", "spot"] (defScope sBadSpot) := ⟨rfl, rfl, rfl, by decide +kernel, rfl, by decide +kernel, by decide +kernel⟩
theorem ini_BadSpot {P : Program} {w : World} {K : PySem.W.Frag} {mg : Str → Option Value} {base : Heap} {C fI : Addr} {oc kV dc pm cd ct : Value} {od an : Option Addr} {sl : Array (Option Value)}
    (l : K.lookup fI = some ⟨oc, od, .func (PySem.W.fnOf "__init__" "BadSpot.__init__" (defArgs sBadSpot) (defBody sBadSpot) (defScope sBadSpot) .none kV dc pm an cd ct), sl⟩) (c : PySem.W.codeIn K cd "BadSpot.__init__" = true) (k : PySem.W.keepIn K (.ref fI) = true)
    (no : PySem.W.findIn K (.ref C) "spot" = some none) (T : OexC K C) : FnOk P w K mg base CX0 1 fI (PySem.W.fnOf "__init__" "BadSpot.__init__" (defArgs sBadSpot) (defBody sBadSpot) (defScope sBadSpot) .none kV dc pm an cd ct) ["self", "spot"] (spInit1 C "spot") ∧ Binds K (PySem.W.fnOf "__init__" "BadSpot.__init__" (defArgs sBadSpot) (defBody sBadSpot) (defScope sBadSpot) .none kV dc pm an cd ct) ["self", "spot"] [] := by
  have F := fun_mk (st := sBadSpot) l c k
  refine ⟨F.ok scBadSpot (fun vs H Q E h => ?_) (fun cv A out s H vs Q E hr h => ?_), F.binds fun _ _ _ _ _ _ us hl => match us, hl with | [_, _], _ => rfl⟩
  · obtain ⟨a, v, rfl, _⟩ := h
    rfl
  obtain ⟨a, v, rfl, ha, q⟩ := h
  exact ⟨_, pss_one (ps_ost (pv 0) (pv 1)), _, rfl, _, rfl, a, C, rfl, T, no, .inl ⟨ha, fun dx hx ne => q dx hx ne⟩⟩
abbrev sStopped : Stmt := inClass (top 10) 0
theorem scStopped : FnScope ["self", "way", "line"] ["self", "way", "line"] (defScope sStopped) := ⟨rfl, rfl, rfl, by decide +kernel, rfl, by decide +kernel, by decide +kernel⟩
theorem ini_Stopped {P : Program} {w : World} {K : PySem.W.Frag} {mg : Str → Option Value} {base : Heap} {C fI : Addr} {oc kV dc pm cd ct : Value} {od an : Option Addr} {sl : Array (Option Value)}
    (l : K.lookup fI = some ⟨oc, od, .func (PySem.W.fnOf "__init__" "Stopped.__init__" (defArgs sStopped) (defBody sStopped) (defScope sStopped) .none kV dc pm an cd ct), sl⟩) (c : PySem.W.codeIn K cd "Stopped.__init__" = true) (k : PySem.W.keepIn K (.ref fI) = true)
    (no : PySem.W.findIn K (.ref C) "way" = some none) (no2 : PySem.W.findIn K (.ref C) "line" = some none) (T : OexC K C) : FnOk P w K mg base CX0 1 fI (PySem.W.fnOf "__init__" "Stopped.__init__" (defArgs sStopped) (defBody sStopped) (defScope sStopped) .none kV dc pm an cd ct) ["self", "way", "line"] (spInit2 C "way" "line") ∧ Binds K (PySem.W.fnOf "__init__" "Stopped.__init__" (defArgs sStopped) (defBody sStopped) (defScope sStopped) .none kV dc pm an cd ct) ["self", "way", "line"] [] := by
  have F := fun_mk (st := sStopped) l c k
  refine ⟨F.ok scStopped (fun vs H Q E h => ?_) (fun cv A out s H vs Q E hr h => ?_), F.binds fun _ _ _ _ _ _ us hl => match us, hl with | [_, _, _], _ => rfl⟩
  · obtain ⟨a, v, u, rfl, _⟩ := h
    rfl
  obtain ⟨a, v, u, rfl, ha, q⟩ := h
  exact ⟨_, pss_cons (ps_ost (pv 0) (pv 1)) (pss_one (ps_ost (pv 0) (pv 2))), _, rfl, _, rfl, a, C, rfl, T, no, .inl ⟨ha, fun dx hx ne => ⟨_, rfl, _, rfl, a, C, rfl, T, no2, .inr ⟨dx, _, upd_same, (by rw [upd_ne ne, upd_same]), (by show 1 ≤ 900; decide), q dx hx ne⟩⟩⟩⟩
theorem main {P : Program} {w : World} {K : PySem.W.Frag} {mg : Str → Option Value} {base : Heap} {C0 C1 C2 C3 C4 C5 C6 C7 C8 C9 C10 C11 CT : Addr} (B : Bi mg) (hTake : Has K mg "_law_take" sTake) (hBag : Has K mg "_law_bag" sBag) (hField : Has K mg "_law_field" sField) (hEarly : Has K mg "_law_early" sEarly) (hRaise : Has K mg "_law_raise" sRaise) (hTold : Has K mg "_law_told" sTold) (hLaw : Has K mg "law" sLaw)
    (e0 : Err1 P w K mg base "BadValue" "place" C0)
    (e1 : Err1 P w K mg base "NoPlace" "place" C1)
    (e3 : Err1 P w K mg base "NoEntry" "at" C3)
    (e4 : Err1 P w K mg base "NotText" "at" C4)
    (e5 : Err1 P w K mg base "BadProgram" "line" C5)
    (e6 : Err1 P w K mg base "TooMany" "what" C6)
    (e7 : Err1 P w K mg base "NoFunction" "name" C7)
    (e9 : Err1 P w K mg base "NoTaker" "name" C9)
    (e10 : Err1 P w K mg base "BadFate" "at" C10)
    (e11 : Err1 P w K mg base "BadSpot" "spot" C11)
    (e2 : Err0 K mg "NoItems" C2) (e8 : Err2 P w K mg base "Stopped" "way" "line" C8) (eT : Cls0 mg "TextorlistError" CT)
    (m0 : MroT K C0 CT) (m1 : MroT K C1 CT) (m2 : MroT K C2 CT) (m3 : MroT K C3 CT) (m4 : MroT K C4 CT) (m5 : MroT K C5 CT) (m6 : MroT K C6 CT) (m7 : MroT K C7 CT) (m8 : MroT K C8 CT) (m9 : MroT K C9 CT) (m10 : MroT K C10 CT) (m11 : MroT K C11 CT)
    (hdT : PySem.W.hasDictIn K CT = true) (hbT : PySem.W.subIn K (.ref CT) (.type "BaseException") = some true) (htT : PySem.W.typeIn K (.ref CT) = some (.type "type"))
    (t0 : PySem.W.typeIn K (.ref C0) = some (.type "type")) (t1 : PySem.W.typeIn K (.ref C1) = some (.type "type")) (t2 : PySem.W.typeIn K (.ref C2) = some (.type "type")) (t3 : PySem.W.typeIn K (.ref C3) = some (.type "type")) (t4 : PySem.W.typeIn K (.ref C4) = some (.type "type")) (t5 : PySem.W.typeIn K (.ref C5) = some (.type "type")) (t6 : PySem.W.typeIn K (.ref C6) = some (.type "type")) (t7 : PySem.W.typeIn K (.ref C7) = some (.type "type")) (t8 : PySem.W.typeIn K (.ref C8) = some (.type "type")) (t9 : PySem.W.typeIn K (.ref C9) = some (.type "type")) (t10 : PySem.W.typeIn K (.ref C10) = some (.type "type")) (t11 : PySem.W.typeIn K (.ref C11) = some (.type "type"))
    (nd : (CT :: [C0, C1, C2, C3, C4, C5, C6, C7, C8, C9, C10, C11]).Nodup) : Dfn P w K mg base CX0 7 "law" ["_law_script"] (spLaw K) := by
  let Cs : Nat → Addr := fun i => [C0, C1, C2, C3, C4, C5, C6, C7, C8, C9, C10, C11].getD i 0
  have mC : ∀ i, i < 12 → MroT K (Cs i) CT := fun i h => match i, h with
    | 0, _ => m0
    | 1, _ => m1
    | 2, _ => m2
    | 3, _ => m3
    | 4, _ => m4
    | 5, _ => m5
    | 6, _ => m6
    | 7, _ => m7
    | 8, _ => m8
    | 9, _ => m9
    | 10, _ => m10
    | 11, _ => m11
    | n + 12, h => absurd h (by omega)
  have tC : ∀ i, i < 12 → PySem.W.typeIn K (.ref (Cs i)) = some (.type "type") := fun i h => match i, h with
    | 0, _ => t0
    | 1, _ => t1
    | 2, _ => t2
    | 3, _ => t3
    | 4, _ => t4
    | 5, _ => t5
    | 6, _ => t6
    | 7, _ => t7
    | 8, _ => t8
    | 9, _ => t9
    | 10, _ => t10
    | 11, _ => t11
    | n + 12, h => absurd h (by omega)
  obtain ⟨nT, nd2⟩ := List.nodup_cons.mp nd
  have at_ : ∀ i (h : i < 12), Cs i = [C0, C1, C2, C3, C4, C5, C6, C7, C8, C9, C10, C11][i]'(by simpa using h) := fun i h => by
    show [C0, C1, C2, C3, C4, C5, C6, C7, C8, C9, C10, C11].getD i 0 = _
    rw [List.getD_eq_getElem?_getD, List.getElem?_eq_getElem (by simpa using h)]
    rfl
  have ne : ∀ i, i < 12 → Cs i ≠ CT := fun i h z => nT (by rw [← z, at_ i h]; exact List.getElem_mem _)
  have inj : ∀ i j, i < 12 → j < 12 → (Cs i = Cs j ↔ i = j) := fun i j hi hj => by
    refine ⟨fun z => ?_, fun z => by rw [z]⟩
    rw [at_ i hi, at_ j hj] at z
    rcases Nat.lt_trichotomy i j with c | c | c
    · exact absurd z (List.pairwise_iff_getElem.mp nd2 i j _ _ c)
    · exact c
    · exact absurd z.symm (List.pairwise_iff_getElem.mp nd2 j i _ _ c)
  have T : Twelve P w K mg base CT Cs := ⟨e0, e1, e2, e3, e4, e5, e6, e7, e8, e9, e10, e11, eT, fun i h => (mC i h).exm hdT hbT htT,
    fun i j hi hj => by rw [(mC i hi).kit (mC j hj).some (tC j hj) (ne j hj)]; exact congrArg some (decide_eq_decide.mpr (inj i j hi hj)), fun i h => (mC i h).kitV⟩
  have DT := d_take (P := P) (w := w) (base := base) hTake B
  exact d_law hLaw B (d_bag hBag B) (d_field hField B DT) (d_told hTold B T (d_raise hRaise B T (d_early hEarly B T)))
end Tx

open PySem PySem.W PyProof.Rows
set_option maxRecDepth 100000 in
set_option maxHeartbeats 0 in
theorem PySem.Challenge.cw_textorlist_k91_errors_made_holds : PySem.Challenge.rw_textorlist_k91_errors_made.Holds := by
  w_on; o_law; k_head; (case hw => w_witness2)
  k_fill
  refine Tx.walkG (l := PySem.Challenge.rw_textorlist_k91_errors_made) (k := 7) (x := "_law_script") (sp := Tx.spLaw) rfl rfl ⟨rfl, by decide, by decide⟩ (fun w h Y => PySem.W.kIn_of Y) ?F (fun K H a ns h1 h2 => ⟨a, ns, rfl, h2, h1, fun _ => rfl⟩)
  case F =>
    intro w mg fa h KX G hmg base b1 b2
    refine' Tx.to_law hmg (Tx.main (base := base) (Tx.bi_of KX G ?b0 ?b1 ?b2 ?b3 ?b4 ?b5 ?b6 ?b7 ?b8 ?b9 ?b10 ?b11 ?b12 ?b13 ?b14 ?b15 ?b16 ?b17) (Tx.has_of (st := Tx.sTake) KX G ?ha0 ?hl0 ?hc0 ?hk0) (Tx.has_of (st := Tx.sBag) KX G ?ha1 ?hl1 ?hc1 ?hk1) (Tx.has_of (st := Tx.sField) KX G ?ha2 ?hl2 ?hc2 ?hk2) (Tx.has_of (st := Tx.sEarly) KX G ?ha3 ?hl3 ?hc3 ?hk3) (Tx.has_of (st := Tx.sRaise) KX G ?ha4 ?hl4 ?hc4 ?hk4) (Tx.has_of (st := Tx.sTold) KX G ?ha5 ?hl5 ?hc5 ?hk5) (Tx.has_of (st := Tx.sLaw) KX G ?ha6 ?hl6 ?hc6 ?hk6) (Tx.err1_of KX G ?e0aC ?e0xL ?e0vb ?e0sa ?e0ga ?e0gg ?e0nf ?e0ai ?e0ti ?e0kC ?e0eC ?e0tC ?e0hC ?e0cC ?e0gC ?e0uC ?e0oC ?e0sC (Tx.ini_BadValue ?e0il ?e0ic ?e0ik ?e0nf)) (Tx.err1_of KX G ?e1aC ?e1xL ?e1vb ?e1sa ?e1ga ?e1gg ?e1nf ?e1ai ?e1ti ?e1kC ?e1eC ?e1tC ?e1hC ?e1cC ?e1gC ?e1uC ?e1oC ?e1sC (Tx.ini_NoPlace ?e1il ?e1ic ?e1ik ?e1nf)) (Tx.err1_of KX G ?e2aC ?e2xL ?e2vb ?e2sa ?e2ga ?e2gg ?e2nf ?e2ai ?e2ti ?e2kC ?e2eC ?e2tC ?e2hC ?e2cC ?e2gC ?e2uC ?e2oC ?e2sC (Tx.ini_NoEntry ?e2il ?e2ic ?e2ik ?e2nf)) (Tx.err1_of KX G ?e3aC ?e3xL ?e3vb ?e3sa ?e3ga ?e3gg ?e3nf ?e3ai ?e3ti ?e3kC ?e3eC ?e3tC ?e3hC ?e3cC ?e3gC ?e3uC ?e3oC ?e3sC (Tx.ini_NotText ?e3il ?e3ic ?e3ik ?e3nf)) (Tx.err1_of KX G ?e4aC ?e4xL ?e4vb ?e4sa ?e4ga ?e4gg ?e4nf ?e4ai ?e4ti ?e4kC ?e4eC ?e4tC ?e4hC ?e4cC ?e4gC ?e4uC ?e4oC ?e4sC (Tx.ini_BadProgram ?e4il ?e4ic ?e4ik ?e4nf)) (Tx.err1_of KX G ?e5aC ?e5xL ?e5vb ?e5sa ?e5ga ?e5gg ?e5nf ?e5ai ?e5ti ?e5kC ?e5eC ?e5tC ?e5hC ?e5cC ?e5gC ?e5uC ?e5oC ?e5sC (Tx.ini_TooMany ?e5il ?e5ic ?e5ik ?e5nf)) (Tx.err1_of KX G ?e6aC ?e6xL ?e6vb ?e6sa ?e6ga ?e6gg ?e6nf ?e6ai ?e6ti ?e6kC ?e6eC ?e6tC ?e6hC ?e6cC ?e6gC ?e6uC ?e6oC ?e6sC (Tx.ini_NoFunction ?e6il ?e6ic ?e6ik ?e6nf)) (Tx.err1_of KX G ?e7aC ?e7xL ?e7vb ?e7sa ?e7ga ?e7gg ?e7nf ?e7ai ?e7ti ?e7kC ?e7eC ?e7tC ?e7hC ?e7cC ?e7gC ?e7uC ?e7oC ?e7sC (Tx.ini_NoTaker ?e7il ?e7ic ?e7ik ?e7nf)) (Tx.err1_of KX G ?e8aC ?e8xL ?e8vb ?e8sa ?e8ga ?e8gg ?e8nf ?e8ai ?e8ti ?e8kC ?e8eC ?e8tC ?e8hC ?e8cC ?e8gC ?e8uC ?e8oC ?e8sC (Tx.ini_BadFate ?e8il ?e8ic ?e8ik ?e8nf)) (Tx.err1_of KX G ?e9aC ?e9xL ?e9vb ?e9sa ?e9ga ?e9gg ?e9nf ?e9ai ?e9ti ?e9kC ?e9eC ?e9tC ?e9hC ?e9cC ?e9gC ?e9uC ?e9oC ?e9sC (Tx.ini_BadSpot ?e9il ?e9ic ?e9ik ?e9nf)) (Tx.err0_of KX G ?f0aC ?f0q ?f0ga ?f0gg ?f0kC ?f0eC ?f0tC ?f0hC ?f0cC ?f0gC ?f0uC ?f0oC ?f0sC) (Tx.err2_of KX G ?g0aC ?g0xL ?g0vb ?g0sa ?g0ga ?g0gg ?g0nf ?g0ng ?g0ai ?g0ti ?g0kC ?g0eC ?g0tC ?g0hC ?g0cC ?g0gC ?g0uC ?g0oC (Tx.ini_Stopped ?g0il ?g0ic ?g0ik ?g0nf ?g0ng)) (Tx.cls0_of KX G ?cl0) (Tx.mroT_of ?mx0) (Tx.mroT_of ?mx1) (Tx.mroT_of ?mx2) (Tx.mroT_of ?mx3) (Tx.mroT_of ?mx4) (Tx.mroT_of ?mx5) (Tx.mroT_of ?mx6) (Tx.mroT_of ?mx7) (Tx.mroT_of ?mx8) (Tx.mroT_of ?mx9) (Tx.mroT_of ?mx10) (Tx.mroT_of ?mx11) ?mo0 ?mo1 ?mo2 ?mo3 ?mo4 ?mo5 ?mo6 ?mo7 ?mo8 ?mo9 ?mo10 ?mo11 ?mo12 ?mo13 ?mo14 ?mo15)
    (case b0 => first | k_is | kit_is | k_exc | decide +kernel | rfl)
    (case b1 => first | k_is | kit_is | k_exc | decide +kernel | rfl)
    (case b2 => first | k_is | kit_is | k_exc | decide +kernel | rfl)
    (case b3 => first | k_is | kit_is | k_exc | decide +kernel | rfl)
    (case b4 => first | k_is | kit_is | k_exc | decide +kernel | rfl)
    (case b5 => first | k_is | kit_is | k_exc | decide +kernel | rfl)
    (case b6 => first | k_is | kit_is | k_exc | decide +kernel | rfl)
    (case b7 => first | k_is | kit_is | k_exc | decide +kernel | rfl)
    (case b8 => first | k_is | kit_is | k_exc | decide +kernel | rfl)
    (case b9 => first | k_is | kit_is | k_exc | decide +kernel | rfl)
    (case b10 => first | k_is | kit_is | k_exc | decide +kernel | rfl)
    (case b11 => first | k_is | kit_is | k_exc | decide +kernel | rfl)
    (case b12 => first | k_is | kit_is | k_exc | decide +kernel | rfl)
    (case b13 => first | k_is | kit_is | k_exc | decide +kernel | rfl)
    (case b14 => first | k_is | kit_is | k_exc | decide +kernel | rfl)
    (case b15 => first | k_is | kit_is | k_exc | decide +kernel | rfl)
    (case b16 => first | k_is | kit_is | k_exc | decide +kernel | rfl)
    (case b17 => first | k_is | kit_is | k_exc | decide +kernel | rfl)
    (case ha0 => first | k_is | kit_is | k_exc | decide +kernel | rfl)
    (case hl0 => first | k_is | kit_is | k_exc | decide +kernel | rfl)
    (case hc0 => first | k_is | kit_is | k_exc | decide +kernel | rfl)
    (case hk0 => first | k_is | kit_is | k_exc | decide +kernel | rfl)
    (case ha1 => first | k_is | kit_is | k_exc | decide +kernel | rfl)
    (case hl1 => first | k_is | kit_is | k_exc | decide +kernel | rfl)
    (case hc1 => first | k_is | kit_is | k_exc | decide +kernel | rfl)
    (case hk1 => first | k_is | kit_is | k_exc | decide +kernel | rfl)
    (case ha2 => first | k_is | kit_is | k_exc | decide +kernel | rfl)
    (case hl2 => first | k_is | kit_is | k_exc | decide +kernel | rfl)
    (case hc2 => first | k_is | kit_is | k_exc | decide +kernel | rfl)
    (case hk2 => first | k_is | kit_is | k_exc | decide +kernel | rfl)
    (case ha3 => first | k_is | kit_is | k_exc | decide +kernel | rfl)
    (case hl3 => first | k_is | kit_is | k_exc | decide +kernel | rfl)
    (case hc3 => first | k_is | kit_is | k_exc | decide +kernel | rfl)
    (case hk3 => first | k_is | kit_is | k_exc | decide +kernel | rfl)
    (case ha4 => first | k_is | kit_is | k_exc | decide +kernel | rfl)
    (case hl4 => first | k_is | kit_is | k_exc | decide +kernel | rfl)
    (case hc4 => first | k_is | kit_is | k_exc | decide +kernel | rfl)
    (case hk4 => first | k_is | kit_is | k_exc | decide +kernel | rfl)
    (case ha5 => first | k_is | kit_is | k_exc | decide +kernel | rfl)
    (case hl5 => first | k_is | kit_is | k_exc | decide +kernel | rfl)
    (case hc5 => first | k_is | kit_is | k_exc | decide +kernel | rfl)
    (case hk5 => first | k_is | kit_is | k_exc | decide +kernel | rfl)
    (case ha6 => first | k_is | kit_is | k_exc | decide +kernel | rfl)
    (case hl6 => first | k_is | kit_is | k_exc | decide +kernel | rfl)
    (case hc6 => first | k_is | kit_is | k_exc | decide +kernel | rfl)
    (case hk6 => first | k_is | kit_is | k_exc | decide +kernel | rfl)
    (case e0aC => first | k_is | kit_is | k_exc | decide +kernel | rfl)
    (case e0xL => first | k_is | kit_is | k_exc | decide +kernel | rfl)
    (case e0vb => first | k_is | kit_is | k_exc | decide +kernel | rfl)
    (case e0sa => first | k_is | kit_is | k_exc | decide +kernel | rfl)
    (case e0ga => first | k_is | kit_is | k_exc | decide +kernel | rfl)
    (case e0gg => first | k_is | kit_is | k_exc | decide +kernel | rfl)
    (case e0nf => first | k_is | kit_is | k_exc | decide +kernel | rfl)
    (case e0ai => first | k_is | kit_is | k_exc | decide +kernel | rfl)
    (case e0ti => first | k_is | kit_is | k_exc | decide +kernel | rfl)
    (case e0kC => first | k_is | kit_is | k_exc | decide +kernel | rfl)
    (case e0eC => first | k_is | kit_is | k_exc | decide +kernel | rfl)
    (case e0tC => first | k_is | kit_is | k_exc | decide +kernel | rfl)
    (case e0hC => first | k_is | kit_is | k_exc | decide +kernel | rfl)
    (case e0cC => first | k_is | kit_is | k_exc | decide +kernel | rfl)
    (case e0gC => first | k_is | kit_is | k_exc | decide +kernel | rfl)
    (case e0uC => first | k_is | kit_is | k_exc | decide +kernel | rfl)
    (case e0oC => first | k_is | kit_is | k_exc | decide +kernel | rfl)
    (case e0sC => first | k_is | kit_is | k_exc | decide +kernel | rfl)
    (case e0il => first | k_is | kit_is | k_exc | decide +kernel | rfl)
    (case e0ic => first | k_is | kit_is | k_exc | decide +kernel | rfl)
    (case e0ik => first | k_is | kit_is | k_exc | decide +kernel | rfl)
    (case e1aC => first | k_is | kit_is | k_exc | decide +kernel | rfl)
    (case e1xL => first | k_is | kit_is | k_exc | decide +kernel | rfl)
    (case e1vb => first | k_is | kit_is | k_exc | decide +kernel | rfl)
    (case e1sa => first | k_is | kit_is | k_exc | decide +kernel | rfl)
    (case e1ga => first | k_is | kit_is | k_exc | decide +kernel | rfl)
    (case e1gg => first | k_is | kit_is | k_exc | decide +kernel | rfl)
    (case e1nf => first | k_is | kit_is | k_exc | decide +kernel | rfl)
    (case e1ai => first | k_is | kit_is | k_exc | decide +kernel | rfl)
    (case e1ti => first | k_is | kit_is | k_exc | decide +kernel | rfl)
    (case e1kC => first | k_is | kit_is | k_exc | decide +kernel | rfl)
    (case e1eC => first | k_is | kit_is | k_exc | decide +kernel | rfl)
    (case e1tC => first | k_is | kit_is | k_exc | decide +kernel | rfl)
    (case e1hC => first | k_is | kit_is | k_exc | decide +kernel | rfl)
    (case e1cC => first | k_is | kit_is | k_exc | decide +kernel | rfl)
    (case e1gC => first | k_is | kit_is | k_exc | decide +kernel | rfl)
    (case e1uC => first | k_is | kit_is | k_exc | decide +kernel | rfl)
    (case e1oC => first | k_is | kit_is | k_exc | decide +kernel | rfl)
    (case e1sC => first | k_is | kit_is | k_exc | decide +kernel | rfl)
    (case e1il => first | k_is | kit_is | k_exc | decide +kernel | rfl)
    (case e1ic => first | k_is | kit_is | k_exc | decide +kernel | rfl)
    (case e1ik => first | k_is | kit_is | k_exc | decide +kernel | rfl)
    (case e2aC => first | k_is | kit_is | k_exc | decide +kernel | rfl)
    (case e2xL => first | k_is | kit_is | k_exc | decide +kernel | rfl)
    (case e2vb => first | k_is | kit_is | k_exc | decide +kernel | rfl)
    (case e2sa => first | k_is | kit_is | k_exc | decide +kernel | rfl)
    (case e2ga => first | k_is | kit_is | k_exc | decide +kernel | rfl)
    (case e2gg => first | k_is | kit_is | k_exc | decide +kernel | rfl)
    (case e2nf => first | k_is | kit_is | k_exc | decide +kernel | rfl)
    (case e2ai => first | k_is | kit_is | k_exc | decide +kernel | rfl)
    (case e2ti => first | k_is | kit_is | k_exc | decide +kernel | rfl)
    (case e2kC => first | k_is | kit_is | k_exc | decide +kernel | rfl)
    (case e2eC => first | k_is | kit_is | k_exc | decide +kernel | rfl)
    (case e2tC => first | k_is | kit_is | k_exc | decide +kernel | rfl)
    (case e2hC => first | k_is | kit_is | k_exc | decide +kernel | rfl)
    (case e2cC => first | k_is | kit_is | k_exc | decide +kernel | rfl)
    (case e2gC => first | k_is | kit_is | k_exc | decide +kernel | rfl)
    (case e2uC => first | k_is | kit_is | k_exc | decide +kernel | rfl)
    (case e2oC => first | k_is | kit_is | k_exc | decide +kernel | rfl)
    (case e2sC => first | k_is | kit_is | k_exc | decide +kernel | rfl)
    (case e2il => first | k_is | kit_is | k_exc | decide +kernel | rfl)
    (case e2ic => first | k_is | kit_is | k_exc | decide +kernel | rfl)
    (case e2ik => first | k_is | kit_is | k_exc | decide +kernel | rfl)
    (case e3aC => first | k_is | kit_is | k_exc | decide +kernel | rfl)
    (case e3xL => first | k_is | kit_is | k_exc | decide +kernel | rfl)
    (case e3vb => first | k_is | kit_is | k_exc | decide +kernel | rfl)
    (case e3sa => first | k_is | kit_is | k_exc | decide +kernel | rfl)
    (case e3ga => first | k_is | kit_is | k_exc | decide +kernel | rfl)
    (case e3gg => first | k_is | kit_is | k_exc | decide +kernel | rfl)
    (case e3nf => first | k_is | kit_is | k_exc | decide +kernel | rfl)
    (case e3ai => first | k_is | kit_is | k_exc | decide +kernel | rfl)
    (case e3ti => first | k_is | kit_is | k_exc | decide +kernel | rfl)
    (case e3kC => first | k_is | kit_is | k_exc | decide +kernel | rfl)
    (case e3eC => first | k_is | kit_is | k_exc | decide +kernel | rfl)
    (case e3tC => first | k_is | kit_is | k_exc | decide +kernel | rfl)
    (case e3hC => first | k_is | kit_is | k_exc | decide +kernel | rfl)
    (case e3cC => first | k_is | kit_is | k_exc | decide +kernel | rfl)
    (case e3gC => first | k_is | kit_is | k_exc | decide +kernel | rfl)
    (case e3uC => first | k_is | kit_is | k_exc | decide +kernel | rfl)
    (case e3oC => first | k_is | kit_is | k_exc | decide +kernel | rfl)
    (case e3sC => first | k_is | kit_is | k_exc | decide +kernel | rfl)
    (case e3il => first | k_is | kit_is | k_exc | decide +kernel | rfl)
    (case e3ic => first | k_is | kit_is | k_exc | decide +kernel | rfl)
    (case e3ik => first | k_is | kit_is | k_exc | decide +kernel | rfl)
    (case e4aC => first | k_is | kit_is | k_exc | decide +kernel | rfl)
    (case e4xL => first | k_is | kit_is | k_exc | decide +kernel | rfl)
    (case e4vb => first | k_is | kit_is | k_exc | decide +kernel | rfl)
    (case e4sa => first | k_is | kit_is | k_exc | decide +kernel | rfl)
    (case e4ga => first | k_is | kit_is | k_exc | decide +kernel | rfl)
    (case e4gg => first | k_is | kit_is | k_exc | decide +kernel | rfl)
    (case e4nf => first | k_is | kit_is | k_exc | decide +kernel | rfl)
    (case e4ai => first | k_is | kit_is | k_exc | decide +kernel | rfl)
    (case e4ti => first | k_is | kit_is | k_exc | decide +kernel | rfl)
    (case e4kC => first | k_is | kit_is | k_exc | decide +kernel | rfl)
    (case e4eC => first | k_is | kit_is | k_exc | decide +kernel | rfl)
    (case e4tC => first | k_is | kit_is | k_exc | decide +kernel | rfl)
    (case e4hC => first | k_is | kit_is | k_exc | decide +kernel | rfl)
    (case e4cC => first | k_is | kit_is | k_exc | decide +kernel | rfl)
    (case e4gC => first | k_is | kit_is | k_exc | decide +kernel | rfl)
    (case e4uC => first | k_is | kit_is | k_exc | decide +kernel | rfl)
    (case e4oC => first | k_is | kit_is | k_exc | decide +kernel | rfl)
    (case e4sC => first | k_is | kit_is | k_exc | decide +kernel | rfl)
    (case e4il => first | k_is | kit_is | k_exc | decide +kernel | rfl)
    (case e4ic => first | k_is | kit_is | k_exc | decide +kernel | rfl)
    (case e4ik => first | k_is | kit_is | k_exc | decide +kernel | rfl)
    (case e5aC => first | k_is | kit_is | k_exc | decide +kernel | rfl)
    (case e5xL => first | k_is | kit_is | k_exc | decide +kernel | rfl)
    (case e5vb => first | k_is | kit_is | k_exc | decide +kernel | rfl)
    (case e5sa => first | k_is | kit_is | k_exc | decide +kernel | rfl)
    (case e5ga => first | k_is | kit_is | k_exc | decide +kernel | rfl)
    (case e5gg => first | k_is | kit_is | k_exc | decide +kernel | rfl)
    (case e5nf => first | k_is | kit_is | k_exc | decide +kernel | rfl)
    (case e5ai => first | k_is | kit_is | k_exc | decide +kernel | rfl)
    (case e5ti => first | k_is | kit_is | k_exc | decide +kernel | rfl)
    (case e5kC => first | k_is | kit_is | k_exc | decide +kernel | rfl)
    (case e5eC => first | k_is | kit_is | k_exc | decide +kernel | rfl)
    (case e5tC => first | k_is | kit_is | k_exc | decide +kernel | rfl)
    (case e5hC => first | k_is | kit_is | k_exc | decide +kernel | rfl)
    (case e5cC => first | k_is | kit_is | k_exc | decide +kernel | rfl)
    (case e5gC => first | k_is | kit_is | k_exc | decide +kernel | rfl)
    (case e5uC => first | k_is | kit_is | k_exc | decide +kernel | rfl)
    (case e5oC => first | k_is | kit_is | k_exc | decide +kernel | rfl)
    (case e5sC => first | k_is | kit_is | k_exc | decide +kernel | rfl)
    (case e5il => first | k_is | kit_is | k_exc | decide +kernel | rfl)
    (case e5ic => first | k_is | kit_is | k_exc | decide +kernel | rfl)
    (case e5ik => first | k_is | kit_is | k_exc | decide +kernel | rfl)
    (case e6aC => first | k_is | kit_is | k_exc | decide +kernel | rfl)
    (case e6xL => first | k_is | kit_is | k_exc | decide +kernel | rfl)
    (case e6vb => first | k_is | kit_is | k_exc | decide +kernel | rfl)
    (case e6sa => first | k_is | kit_is | k_exc | decide +kernel | rfl)
    (case e6ga => first | k_is | kit_is | k_exc | decide +kernel | rfl)
    (case e6gg => first | k_is | kit_is | k_exc | decide +kernel | rfl)
    (case e6nf => first | k_is | kit_is | k_exc | decide +kernel | rfl)
    (case e6ai => first | k_is | kit_is | k_exc | decide +kernel | rfl)
    (case e6ti => first | k_is | kit_is | k_exc | decide +kernel | rfl)
    (case e6kC => first | k_is | kit_is | k_exc | decide +kernel | rfl)
    (case e6eC => first | k_is | kit_is | k_exc | decide +kernel | rfl)
    (case e6tC => first | k_is | kit_is | k_exc | decide +kernel | rfl)
    (case e6hC => first | k_is | kit_is | k_exc | decide +kernel | rfl)
    (case e6cC => first | k_is | kit_is | k_exc | decide +kernel | rfl)
    (case e6gC => first | k_is | kit_is | k_exc | decide +kernel | rfl)
    (case e6uC => first | k_is | kit_is | k_exc | decide +kernel | rfl)
    (case e6oC => first | k_is | kit_is | k_exc | decide +kernel | rfl)
    (case e6sC => first | k_is | kit_is | k_exc | decide +kernel | rfl)
    (case e6il => first | k_is | kit_is | k_exc | decide +kernel | rfl)
    (case e6ic => first | k_is | kit_is | k_exc | decide +kernel | rfl)
    (case e6ik => first | k_is | kit_is | k_exc | decide +kernel | rfl)
    (case e7aC => first | k_is | kit_is | k_exc | decide +kernel | rfl)
    (case e7xL => first | k_is | kit_is | k_exc | decide +kernel | rfl)
    (case e7vb => first | k_is | kit_is | k_exc | decide +kernel | rfl)
    (case e7sa => first | k_is | kit_is | k_exc | decide +kernel | rfl)
    (case e7ga => first | k_is | kit_is | k_exc | decide +kernel | rfl)
    (case e7gg => first | k_is | kit_is | k_exc | decide +kernel | rfl)
    (case e7nf => first | k_is | kit_is | k_exc | decide +kernel | rfl)
    (case e7ai => first | k_is | kit_is | k_exc | decide +kernel | rfl)
    (case e7ti => first | k_is | kit_is | k_exc | decide +kernel | rfl)
    (case e7kC => first | k_is | kit_is | k_exc | decide +kernel | rfl)
    (case e7eC => first | k_is | kit_is | k_exc | decide +kernel | rfl)
    (case e7tC => first | k_is | kit_is | k_exc | decide +kernel | rfl)
    (case e7hC => first | k_is | kit_is | k_exc | decide +kernel | rfl)
    (case e7cC => first | k_is | kit_is | k_exc | decide +kernel | rfl)
    (case e7gC => first | k_is | kit_is | k_exc | decide +kernel | rfl)
    (case e7uC => first | k_is | kit_is | k_exc | decide +kernel | rfl)
    (case e7oC => first | k_is | kit_is | k_exc | decide +kernel | rfl)
    (case e7sC => first | k_is | kit_is | k_exc | decide +kernel | rfl)
    (case e7il => first | k_is | kit_is | k_exc | decide +kernel | rfl)
    (case e7ic => first | k_is | kit_is | k_exc | decide +kernel | rfl)
    (case e7ik => first | k_is | kit_is | k_exc | decide +kernel | rfl)
    (case e8aC => first | k_is | kit_is | k_exc | decide +kernel | rfl)
    (case e8xL => first | k_is | kit_is | k_exc | decide +kernel | rfl)
    (case e8vb => first | k_is | kit_is | k_exc | decide +kernel | rfl)
    (case e8sa => first | k_is | kit_is | k_exc | decide +kernel | rfl)
    (case e8ga => first | k_is | kit_is | k_exc | decide +kernel | rfl)
    (case e8gg => first | k_is | kit_is | k_exc | decide +kernel | rfl)
    (case e8nf => first | k_is | kit_is | k_exc | decide +kernel | rfl)
    (case e8ai => first | k_is | kit_is | k_exc | decide +kernel | rfl)
    (case e8ti => first | k_is | kit_is | k_exc | decide +kernel | rfl)
    (case e8kC => first | k_is | kit_is | k_exc | decide +kernel | rfl)
    (case e8eC => first | k_is | kit_is | k_exc | decide +kernel | rfl)
    (case e8tC => first | k_is | kit_is | k_exc | decide +kernel | rfl)
    (case e8hC => first | k_is | kit_is | k_exc | decide +kernel | rfl)
    (case e8cC => first | k_is | kit_is | k_exc | decide +kernel | rfl)
    (case e8gC => first | k_is | kit_is | k_exc | decide +kernel | rfl)
    (case e8uC => first | k_is | kit_is | k_exc | decide +kernel | rfl)
    (case e8oC => first | k_is | kit_is | k_exc | decide +kernel | rfl)
    (case e8sC => first | k_is | kit_is | k_exc | decide +kernel | rfl)
    (case e8il => first | k_is | kit_is | k_exc | decide +kernel | rfl)
    (case e8ic => first | k_is | kit_is | k_exc | decide +kernel | rfl)
    (case e8ik => first | k_is | kit_is | k_exc | decide +kernel | rfl)
    (case e9aC => first | k_is | kit_is | k_exc | decide +kernel | rfl)
    (case e9xL => first | k_is | kit_is | k_exc | decide +kernel | rfl)
    (case e9vb => first | k_is | kit_is | k_exc | decide +kernel | rfl)
    (case e9sa => first | k_is | kit_is | k_exc | decide +kernel | rfl)
    (case e9ga => first | k_is | kit_is | k_exc | decide +kernel | rfl)
    (case e9gg => first | k_is | kit_is | k_exc | decide +kernel | rfl)
    (case e9nf => first | k_is | kit_is | k_exc | decide +kernel | rfl)
    (case e9ai => first | k_is | kit_is | k_exc | decide +kernel | rfl)
    (case e9ti => first | k_is | kit_is | k_exc | decide +kernel | rfl)
    (case e9kC => first | k_is | kit_is | k_exc | decide +kernel | rfl)
    (case e9eC => first | k_is | kit_is | k_exc | decide +kernel | rfl)
    (case e9tC => first | k_is | kit_is | k_exc | decide +kernel | rfl)
    (case e9hC => first | k_is | kit_is | k_exc | decide +kernel | rfl)
    (case e9cC => first | k_is | kit_is | k_exc | decide +kernel | rfl)
    (case e9gC => first | k_is | kit_is | k_exc | decide +kernel | rfl)
    (case e9uC => first | k_is | kit_is | k_exc | decide +kernel | rfl)
    (case e9oC => first | k_is | kit_is | k_exc | decide +kernel | rfl)
    (case e9sC => first | k_is | kit_is | k_exc | decide +kernel | rfl)
    (case e9il => first | k_is | kit_is | k_exc | decide +kernel | rfl)
    (case e9ic => first | k_is | kit_is | k_exc | decide +kernel | rfl)
    (case e9ik => first | k_is | kit_is | k_exc | decide +kernel | rfl)
    (case f0aC => first | k_is | kit_is | k_exc | decide +kernel | rfl)
    (case f0q => first | k_is | kit_is | k_exc | decide +kernel | rfl)
    (case f0ga => first | k_is | kit_is | k_exc | decide +kernel | rfl)
    (case f0gg => first | k_is | kit_is | k_exc | decide +kernel | rfl)
    (case f0kC => first | k_is | kit_is | k_exc | decide +kernel | rfl)
    (case f0eC => first | k_is | kit_is | k_exc | decide +kernel | rfl)
    (case f0tC => first | k_is | kit_is | k_exc | decide +kernel | rfl)
    (case f0hC => first | k_is | kit_is | k_exc | decide +kernel | rfl)
    (case f0cC => first | k_is | kit_is | k_exc | decide +kernel | rfl)
    (case f0gC => first | k_is | kit_is | k_exc | decide +kernel | rfl)
    (case f0uC => first | k_is | kit_is | k_exc | decide +kernel | rfl)
    (case f0oC => first | k_is | kit_is | k_exc | decide +kernel | rfl)
    (case f0sC => first | k_is | kit_is | k_exc | decide +kernel | rfl)
    (case g0aC => first | k_is | kit_is | k_exc | decide +kernel | rfl)
    (case g0xL => first | k_is | kit_is | k_exc | decide +kernel | rfl)
    (case g0vb => first | k_is | kit_is | k_exc | decide +kernel | rfl)
    (case g0sa => first | k_is | kit_is | k_exc | decide +kernel | rfl)
    (case g0ga => first | k_is | kit_is | k_exc | decide +kernel | rfl)
    (case g0gg => first | k_is | kit_is | k_exc | decide +kernel | rfl)
    (case g0nf => first | k_is | kit_is | k_exc | decide +kernel | rfl)
    (case g0ng => first | k_is | kit_is | k_exc | decide +kernel | rfl)
    (case g0ai => first | k_is | kit_is | k_exc | decide +kernel | rfl)
    (case g0ti => first | k_is | kit_is | k_exc | decide +kernel | rfl)
    (case g0kC => first | k_is | kit_is | k_exc | decide +kernel | rfl)
    (case g0eC => first | k_is | kit_is | k_exc | decide +kernel | rfl)
    (case g0tC => first | k_is | kit_is | k_exc | decide +kernel | rfl)
    (case g0hC => first | k_is | kit_is | k_exc | decide +kernel | rfl)
    (case g0cC => first | k_is | kit_is | k_exc | decide +kernel | rfl)
    (case g0gC => first | k_is | kit_is | k_exc | decide +kernel | rfl)
    (case g0uC => first | k_is | kit_is | k_exc | decide +kernel | rfl)
    (case g0oC => first | k_is | kit_is | k_exc | decide +kernel | rfl)
    (case g0il => first | k_is | kit_is | k_exc | decide +kernel | rfl)
    (case g0ic => first | k_is | kit_is | k_exc | decide +kernel | rfl)
    (case g0ik => first | k_is | kit_is | k_exc | decide +kernel | rfl)
    (case cl0 => first | k_is | kit_is | k_exc | decide +kernel | rfl)
    (case mx0 => first | k_is | kit_is | k_exc | decide +kernel | rfl)
    (case mx1 => first | k_is | kit_is | k_exc | decide +kernel | rfl)
    (case mx2 => first | k_is | kit_is | k_exc | decide +kernel | rfl)
    (case mx3 => first | k_is | kit_is | k_exc | decide +kernel | rfl)
    (case mx4 => first | k_is | kit_is | k_exc | decide +kernel | rfl)
    (case mx5 => first | k_is | kit_is | k_exc | decide +kernel | rfl)
    (case mx6 => first | k_is | kit_is | k_exc | decide +kernel | rfl)
    (case mx7 => first | k_is | kit_is | k_exc | decide +kernel | rfl)
    (case mx8 => first | k_is | kit_is | k_exc | decide +kernel | rfl)
    (case mx9 => first | k_is | kit_is | k_exc | decide +kernel | rfl)
    (case mx10 => first | k_is | kit_is | k_exc | decide +kernel | rfl)
    (case mx11 => first | k_is | kit_is | k_exc | decide +kernel | rfl)
    (case mo0 => first | k_is | kit_is | k_exc | decide +kernel | rfl)
    (case mo1 => first | k_is | kit_is | k_exc | decide +kernel | rfl)
    (case mo2 => first | k_is | kit_is | k_exc | decide +kernel | rfl)
    (case mo3 => first | k_is | kit_is | k_exc | decide +kernel | rfl)
    (case mo4 => first | k_is | kit_is | k_exc | decide +kernel | rfl)
    (case mo5 => first | k_is | kit_is | k_exc | decide +kernel | rfl)
    (case mo6 => first | k_is | kit_is | k_exc | decide +kernel | rfl)
    (case mo7 => first | k_is | kit_is | k_exc | decide +kernel | rfl)
    (case mo8 => first | k_is | kit_is | k_exc | decide +kernel | rfl)
    (case mo9 => first | k_is | kit_is | k_exc | decide +kernel | rfl)
    (case mo10 => first | k_is | kit_is | k_exc | decide +kernel | rfl)
    (case mo11 => first | k_is | kit_is | k_exc | decide +kernel | rfl)
    (case mo12 => first | k_is | kit_is | k_exc | decide +kernel | rfl)
    (case mo13 => first | k_is | kit_is | k_exc | decide +kernel | rfl)
    (case mo14 => first | k_is | kit_is | k_exc | decide +kernel | rfl)
    (case mo15 => first | k_is | kit_is | k_exc | decide +kernel | rfl)
#print axioms PySem.Challenge.cw_textorlist_k91_errors_made_holds
