import PyProof.Rows.All
import Wide.All
import OpenK.AllK
import Wide.FinOn
import PyProof.ReprLen
import PyProof.ReprRoads
import PyProof.EqLayable
import HandS.ForMost
import HandS.Exc
import HandS.TryOnly
import HandS.ExcOwn
import HandS.WordsExc
import HandS.IsInst
import HandS.Walk
import HandS.Flow
import HandS.ExcInit
import HandS.ExcIs
import HandS.ExcField
import HandS.TryMany
import PyProof.ListStr
import KE.KExcIs
import PyProof.StrBlock2
import HandS.TupAny
import KE.DataMinMax
import HandS.SortKw
import KE.KOpsOwn
import HandS.SlotsOwn
import PyProof.InstNe
import PyProof.LongRange
import HandS.TupLe
import HandS.Deep
import HandS.Style
import HandS.ClsMeth
import HandS.More
import KE.GoesZip
import KE.GoesMore
import KE.GoesEnum
import HandS.Zip
import HandS.Defaults
import HandS.Star
import HandS.Strs
import HandS.SetFor
import PyProof.EnumMake
import PySem.Challenge.RW_textorlist_k17_shapes_changed_in_place
set_option Elab.async false
set_option linter.all false
set_option maxRecDepth 100000
set_option maxHeartbeats 4000000
/-! ## Data: what can be shown, how long it is then -/
namespace Tx
open PySem

mutual
/-- no dict, letters of a text below the last code point, iv of less than 1920 bits -/
def fine : PyData → Bool
  | .none | .bool _ => true
  | .int i => decide (i.natAbs.log2 < 1920)
  | .str x => x.cps.toList.all fun c => decide (c < 0x110000)
  | .list xs | .tuple xs => fineAll xs
  | .dict _ => false
def fineAll : List PyData → Bool
  | [] => true
  | x :: xs => fine x && fineAll xs
end
mutual
/-- a bound for the number of signs of its repr -/
def wt : PyData → Nat
  | .none | .bool _ => 5
  | .int _ => 2000
  | .str x => 10 * x.length + 2
  | .list xs | .tuple xs => wtAll xs + 3
  | .dict _ => 0
def wtAll : List PyData → Nat
  | [] => 0
  | x :: xs => wt x + 2 + wtAll xs
end
theorem fineAll_iff : ∀ {xs : List PyData}, fineAll xs = true ↔ ∀ d ∈ xs, fine d = true
  | [] => by simp [fineAll]
  | x :: xs => by simp [fineAll, fineAll_iff (xs := xs)]
theorem wtAll_append : ∀ (xs ys : List PyData), wtAll (xs ++ ys) = wtAll xs + wtAll ys
  | [], ys => by simp [wtAll]
  | x :: xs, ys => by simp only [List.cons_append, wtAll, wtAll_append xs ys]; omega
theorem wtAll_le {B : Nat} : ∀ {xs : List PyData}, (∀ d ∈ xs, wt d ≤ B) → wtAll xs ≤ (B + 2) * xs.length
  | [], _ => by simp [wtAll]
  | x :: xs, h => by
    have h1 := h x List.mem_cons_self
    have h2 := wtAll_le (B := B) (xs := xs) fun d hd => h d (List.mem_cons_of_mem _ hd)
    simp only [wtAll, List.length_cons, Nat.mul_add, Nat.mul_one]
    omega
theorem depthAll_le {n : Nat} : ∀ {xs : List PyData}, (∀ d ∈ xs, d.depth ≤ n) → PyData.depthAll xs ≤ n
  | [], _ => by simp [PyData.depthAll]
  | x :: xs, h => by
    have h1 := h x List.mem_cons_self
    have h2 := depthAll_le (n := n) (xs := xs) fun d hd => h d (List.mem_cons_of_mem _ hd)
    simp only [PyData.depthAll]
    omega
theorem depth_mem : ∀ {xs : List PyData} {d : PyData}, d ∈ xs → d.depth ≤ PyData.depthAll xs
  | [], d, h => by simp at h
  | x :: xs, d, h => by
    simp only [PyData.depthAll]
    cases h with
    | head => omega
    | tail _ h => have := depth_mem h; omega
theorem wt_mem : ∀ {xs : List PyData} {d : PyData}, d ∈ xs → wt d + 2 ≤ wtAll xs
  | [], d, h => by simp at h
  | x :: xs, d, h => by
    simp only [wtAll]
    cases h with
    | head => omega
    | tail _ h => have := wt_mem h; omega
mutual
theorem fine_showable : ∀ d : PyData, fine d = true → d.showable = true
  | .none, _ => rfl
  | .bool _, _ => rfl
  | .str _, _ => rfl
  | .int i, h => by simpa [fine, PyData.showable] using h
  | .list xs, h => by simp only [fine] at h; simp only [PyData.showable]; exact fineAll_showable xs h
  | .tuple xs, h => by simp only [fine] at h; simp only [PyData.showable]; exact fineAll_showable xs h
  | .dict _, h => by simp [fine] at h
theorem fineAll_showable : ∀ xs : List PyData, fineAll xs = true → PyData.showableAll xs = true
  | [], _ => rfl
  | x :: xs, h => by
    simp only [fineAll, Bool.and_eq_true] at h
    simp only [PyData.showableAll, fine_showable x h.1, fineAll_showable xs h.2, Bool.and_self]
end
mutual
theorem fine_lay : ∀ d : PyData, fine d = true → d.canLay0 = true
  | .none, _ => rfl
  | .bool _, _ => rfl
  | .int _, _ => rfl
  | .str x, h => by
    simp only [fine, List.all_eq_true, decide_eq_true_eq] at h
    simp only [PyData.canLay0]
    show x.cps.all (· < 0x110000) = true
    rw [Array.all_eq_true_iff_forall_mem]
    intro c hc
    exact decide_eq_true (h c (Array.mem_toList_iff.mpr hc))
  | .list xs, h => by simp only [fine] at h; simp only [PyData.canLay0]; exact fineAll_lay xs h
  | .tuple xs, h => by simp only [fine] at h; simp only [PyData.canLay0]; exact fineAll_lay xs h
  | .dict _, h => by simp [fine] at h
theorem fineAll_lay : ∀ xs : List PyData, fineAll xs = true → PyData.canLayAll0 xs = true
  | [], _ => rfl
  | x :: xs, h => by
    simp only [fineAll, Bool.and_eq_true] at h
    simp only [PyData.canLayAll0, fine_lay x h.1, fineAll_lay xs h.2, Bool.and_self]
end
mutual
theorem shown_wt : ∀ d : PyData, fine d = true → d.shown.length ≤ wt d
  | .none, _ => by decide
  | .bool b, _ => by cases b <;> decide
  | .int i, h => by
    have e := int_text_fits (a := i) (by simpa [fine] using h)
    have e2 := PyProof.Rows.int_text_len_1921 (i := i) (by simpa [fine] using h)
    simp only [PyData.shown, wt]
    omega
  | .str x, h => by
    simp only [fine, List.all_eq_true, decide_eq_true_eq] at h
    have e := StrLaws.reprText_len x fun c hc => by
      have := h c hc
      have e8 : (16 : Nat) ^ 8 = 4294967296 := by decide
      omega
    simpa only [PyData.shown, wt] using e
  | .list xs, h => by
    simp only [fine] at h
    have h1 := shownAll_wt xs h
    have h2 := listText_len_le (PyData.shownAll xs)
    simp only [PyData.shown, wt]
    omega
  | .tuple xs, h => by
    simp only [fine] at h
    have h1 := shownAll_wt xs h
    have h2 := tupleText_len_le (PyData.shownAll xs)
    simp only [PyData.shown, wt]
    omega
  | .dict _, h => by simp [fine] at h
theorem shownAll_wt : ∀ xs : List PyData, fineAll xs = true → ((PyData.shownAll xs).map (·.length)).sum + 2 * (PyData.shownAll xs).length ≤ wtAll xs
  | [], _ => by simp [PyData.shownAll, wtAll]
  | x :: xs, h => by
    simp only [fineAll, Bool.and_eq_true] at h
    have h1 := shown_wt x h.1
    have h2 := shownAll_wt xs h.2
    simp only [PyData.shownAll, wtAll, List.map_cons, List.sum_cons, List.length_cons]
    omega
end
/-- may be shown and compared -/
def Ok (d : PyData) : Prop := fine d = true ∧ d.depth ≤ 60 ∧ wt d ≤ 16000000
theorem Ok.fits {d : PyData} (h : Ok d) : d.shown.length ≤ sizeLine := by
  have := shown_wt d h.1
  have := h.2.2
  rw [sizeLine_eq]
  omega
theorem Ok.nodict {d : PyData} (h : Ok d) : d.hasDict = false := PyData.hasDict_of_canLay d (fine_lay d h.1)
theorem Ok.shaped {d : PyData} (h : Ok d) : SeqAt.shaped d = true := by
  unfold SeqAt.shaped
  rw [fine_lay d h.1, Bool.true_and]
  exact decide_eq_true (Nat.le_trans h.2.1 (by decide))
end Tx
/-! ## What the kit's hand layer lacks for these laws: a def that is run where no repr is under way (guards), repr of data of any depth -/
namespace Tx
open PySem PySem.Spec PyProof.Rows L2

/-- a def's promise, asked only where nothing is being shown -/
structure FnG (P : Program) (w : World) (K : PySem.W.Frag) (mg : Str → Option Value) (base : Heap) (CX : CXT) (k : Nat)
    (f : Addr) (fd : FuncData) (ps : List Str) (sp : Sp) : Prop where
  len : ∀ vs H Q E, sp vs H Q E → vs.length = ps.length
  run : ∀ (A : Around) (out : List Env) (s : Shared) (H : Hp) (ar : Args) (us : List Value) (vs : List V) (Q : VK) (E : XK),
    Room k A → A.guards = some [] → Env0 P w K mg base A out s H → BindsTo s fd ar (ps.zip us) → Vals vs us → sp vs H Q E →
      codeAny (model P w) A (.call (.ref f) ar) (CR CX out P w H s Q E) s

section
variable {P : Program} {w : World} {K : PySem.W.Frag} {mg : Str → Option Value} {base : Heap} {CX : CXT} {k : Nat} {f : Addr} {fd : FuncData}
  {ps N : List Str} {sp : Sp} {x qual : Str} {st : Stmt}
theorem FnG.of (F : FnOk P w K mg base CX k f fd ps sp) : FnG P w K mg base CX k f fd ps sp :=
  ⟨F.len, fun A out s H ar us vs Q E r _ e b v h => F.run A out s H ar us vs Q E r e b v h⟩
theorem FnG.mono {j : Nat} (F : FnG P w K mg base CX j f fd ps sp) (h : j ≤ k) : FnG P w K mg base CX k f fd ps sp :=
  ⟨F.len, fun A out s H ar us vs Q E r g e b v q => F.run A out s H ar us vs Q E (r.mono h) g e b v q⟩

/-- from the body's reading to the promise -/
theorem okG (F : Fun K x qual st f fd) (S : FnScope N ps (defScope st)) (len : ∀ vs H Q E, sp vs H Q E → vs.length = ps.length)
    (body : ∀ (cv : Value) (A : Around) (out : List Env) (s : Shared) (H : Hp) (vs : List V) (Q : VK) (E : XK),
      Room k (A.deeper (envOfC qual (defScope st) s.heap.objs.size f cv)) → A.guards = some [] → sp vs H Q E →
      ∃ t, PSs (cxOf CX P w K mg base N qual (defScope st) f cv A out s H E) (defBody st) t ∧
        t { nx := fun _ H' => Q .non H', rt := Q } (start N vs) H) :
    FnG P w K mg base CX (k + 1) f fd ps sp := by
  obtain ⟨_, _, _, _, _, _, cv, _, _, rfl, at_f, code⟩ := F.ex
  refine ⟨len, fun A out s H ar us vs Q E room gd e0 bd rel ask => ?_⟩
  have inH : K.In s.heap := e0.mod.kin.keeps fun b o z => (e0.bs b o z).1
  have free : s.heap.NoLimit := e0.mod.nolimit.keeps fun b o z => (e0.bs b o z).1
  refine codeAny_call_function room.depth (inH _ _ at_f) rfl S.co S.gen rfl (PySem.W.codeRec_of inH code) (bd _ _ _ _ ?_)
  refine wpAny_newFunctionEnv_cells S.kind ?kinds ?entered
  case kinds =>
    rintro ⟨nm, val⟩ hz
    cases S.par nm (List.of_mem_zip hz).1 with
    | inl q => exact .inl q
    | inr q => exact .inr ⟨q, PySem.W.cellsFrom_some _ _ _ (.inl q)⟩
  case entered =>
    rintro env rfl s1 ic
    obtain ⟨t, pss, rd⟩ := body cv A out s H vs Q E (room.deeper _) gd ask
    have I := inv_start (CX := CX) (E := E) S room.hd e0 (len _ _ _ _ ask) rel ic
    refine ⟨free.keeps ic.toInCall.keep, codeAny_func (wpAny_mono (pss.run [] s1 (start N vs) H _ I rd) ?_ fun _ _ z => z)⟩
    intro fl s2 got
    cases fl with
    | next => obtain ⟨_, H2, J, q⟩ := got; exact ⟨.non, H2, J.os, J.bare, J.base, J.hok, rfl, q⟩
    | ret u => obtain ⟨v, _, H2, J, r, q⟩ := got; exact ⟨v, H2, J.os, J.bare, J.base, J.hok, r, q⟩
    | brk => obtain ⟨_, _, _, q⟩ := got; exact False.elim q
    | cont => obtain ⟨_, _, _, q⟩ := got; exact False.elim q

end
section
variable {X : Cx} {CX : CXT} {k : Nat} {f : Addr} {fd : FuncData} {ps : List Str} {sp : Sp} {dvs : List V} {ds : List Value} {E : XK}
  {x : Str} {p pos : Pos} {e : Expr} {es : List Expr} {t : TA}
/-- f(e, ..) of such a def -/
theorem pe_callG (F : FnG X.prog X.w X.K X.mg X.base CX k f fd ps sp) (room : Room k X.A) (gd : X.A.guards = some []) (gl : Gl X x) (at_f : X.mg x = some (.ref f))
    (kp : PySem.W.keepIn X.K (.ref f) = true) (bd : Binds X.K fd ps ds) (dv : Vals dvs ds) (out : Passes CX X E) (args : PA X (e :: es) t)
    (nd : (x == ("__debug__" : Str)) = false := by decide)
    (plain : starEach (e :: es) X.env = (false, eval e X.env) :: starEach es X.env := by rfl)
    (bare : (backTo pos (starEach es X.env)).any (·.1) = false := by rfl) :
    PE X (.Call (.Name x p) (e :: es) [] pos) (tCall sp dvs E t) := by
  constructor
  intro pins s σ H Q I ask
  refine wpAny_Call_Name_kw (ld_glob I gl at_f ?_ nd)
  refine PySem.W.callWith_K (h₀ := X.base) I.ok.mod.kin kp (thn (args.run pos pins s σ H _ I ask) ?_) plain bare
  rintro us s1 ⟨vs, H1, J, rel, q⟩
  refine ⟨J.kIn, ?_⟩
  have both : Vals (vs ++ dvs) (us ++ ds) := rel.append dv
  have full : (us ++ ds).length = ps.length := both.length.symm.trans (F.len _ _ _ _ q)
  refine wpAny_call (codeAny_mono (F.run X.A X.stack s1 H1 ⟨us, []⟩ (us ++ ds) (vs ++ dvs) Q E room gd J.env0 (bd s1 us J.kIn full) both q) ?_)
  intro r s2 got
  match r, got with
  | .ok (.ret u), got => exact J.after got
  | .ok .next, got => exact False.elim got
  | .ok .brk, got => exact False.elim got
  | .ok .cont, got => exact False.elim got
  | .error er, got => exact out pins σ H1 s1 er s2 J got
end

/-! ### the end of a law row -/
section
/-- the abstract heap at the law's entry: the script alone, locked, unless it is an object of the module -/
def entryH (K : PySem.W.Frag) (a : Addr) (o : Obj) (xs : List V) : Hp := fun b => if b = a ∧ K.lookup a = none then some (.frz o (.lst xs)) else none
theorem entryH_some {K : PySem.W.Frag} {a b : Addr} {o : Obj} {xs : List V} {u : HO} (h : entryH K a o xs b = some u) : b = a ∧ K.lookup a = none ∧ u = .frz o (.lst xs) := by
  unfold entryH at h
  split at h
  · rename_i c; exact ⟨c.1, c.2, (Option.some.inj h).symm⟩
  · cases h
theorem lawG {P : Program} {w : World} {K : PySem.W.Frag} {mg mb : Str → Option Value} {k : Nat} {fa a : Addr} {x : Str} {sp : Sp} {s : Shared} {vs : List Value} {ns : List Int}
    (inK : K.In s.heap) (gl : s.heap.Ns mainGlobals mg) (bl : s.heap.Ns builtinsNs mb) (boot : ∀ y : Str, y ≠ "__name__" → mb y = bootBuiltins y) (lim : s.heap.NoLimit) (gens : s.gens = #[])
    (ob : s.heap.get? a = some { cls := .type "list", data := .seq vs.toArray }) (iv : IntsAre vs ns) (small : ns.length ≤ sizeLine) (room : Room k callerA)
    (F : ∀ base : Heap, K.In base → base.Ns mainGlobals mg → ∃ fd : FuncData, FnG P w K mg base CX0 k fa fd [x] sp ∧ Binds K fd [x] [])
    (ask : ∀ H : Hp, SqL K H a (ns.map V.int) → sp [.ref a] H (fun v _ => v = .bl true) fun _ _ _ => False) :
    codeAny (model P w) callerA (.call (.ref fa) ⟨[.ref a], []⟩) (fun r s' => r = .ok (.ret (.bool true)) ∧ OldK s.heap s'.heap ∧ s'.os = s.os ∧ AllBare s'.gens) s := by
  have rel := vals_ints iv
  have same := iv.length
  let o : Obj := { cls := .type "list", data := .seq vs.toArray }
  let H := entryH K a o (ns.map V.int)
  have sq : SqL K H a (ns.map V.int) := by
    cases hk : K.lookup a with
    | none => exact .inl (.inr ⟨o, if_pos ⟨rfl, hk⟩⟩)
    | some u =>
      have z := inK a u hk
      rw [ob] at z
      cases z
      exact .inr ⟨_, vs.toArray, _, hk, rfl, rfl, rfl, (by rw [List.size_toArray, same]; exact small), by simpa using rel⟩
  have hok : HOk P w H s.heap := by
    intro b u z
    obtain ⟨rfl, _, rfl⟩ := entryH_some z
    exact ⟨ob, by rw [List.length_map]; exact small, vs, _, rel, ob⟩
  have shown : ∀ {b : Addr} {u : Obj}, s.heap.get? b = some u → (b = a → K.lookup a ≠ none) → (hidT s.heap H).get? b = some u := by
    intro b u z n
    refine hidT_get z ?_
    show entryH K a o (ns.map V.int) b = none
    unfold entryH
    rw [if_neg]
    exact fun c => n c.1 c.2
  have names : ∀ {b : Addr} {m : Str → Option Value}, s.heap.Ns b m → (hidT s.heap H).Ns b m := by
    rintro b m ⟨u, es, ep, z, dt, more⟩
    refine ⟨u, es, ep, shown z ?_, dt, more⟩
    rintro rfl
    rw [ob] at z
    cases z
    cases dt
  have inB : K.In (hidT s.heap H) := fun b u z => shown (inK b u z) (by rintro rfl n; rw [z] at n; cases n)
  have md : Mod K mg (hidT s.heap H) := ⟨inB, names gl, ⟨mb, names bl, boot⟩, by obtain ⟨mc, z1, z2⟩ := lim; exact ⟨mc, names z1, z2⟩⟩
  have e0 : Env0 P w K mg (hidT s.heap H) callerA [] s H :=
    { frames := rfl, mod := md, bs := fun b u z => of_hidT z, bsz := Nat.le_of_eq (hidT_size _ _), funs := trivial, frf := fun b z => (nomatch z), hok := hok, bare := .of_eq gens }
  obtain ⟨fd, FF, bd⟩ := F _ inB (names gl)
  refine codeAny_mono (FF.run callerA [] s H ⟨[.ref a], []⟩ [.ref a] [.ref a] _ _ room rfl e0 (bd s [.ref a] inK rfl) (.cons rfl .nil) (ask H sq)) ?_
  intro r s' got
  match r, got with
  | .error er, got => exact False.elim got
  | .ok .next, got => exact False.elim got
  | .ok .brk, got => exact False.elim got
  | .ok .cont, got => exact False.elim got
  | .ok (.ret u), ⟨v, H', os, bare, un, hok', r', q⟩ =>
    have q' : v = .bl true := q
    subst q'
    obtain rfl : u = Value.bool true := r'
    refine ⟨rfl, OldK.of_keep fun b ou z => ?_, os, bare⟩
    cases hb : H b with
    | none => exact un.keep b ou z hb (fun y => nomatch y) (by simp)
    | some hu =>
      obtain ⟨rfl, _, rfl⟩ := entryH_some hb
      have z2 := hok' _ _ (un.frzs _ _ _ hb)
      rw [ob] at z
      cases z
      exact z2.1

/-- what k_head leaves, from the law's promise -/
theorem walkG {l : PySem.W.OpenLaw} {k : Nat} {q : Program} {loose : List Str} {XP : (Str → Option Value) → Heap → Prop} {YP : World → Heap → Prop} {d : DefRec} {K : Params → PySem.W.Frag} {sp : PySem.W.Frag → Sp} {x : Str}
    (most : l.most = some 63) (df : d.params.defaults = []) (room : Room k callerA) (inY : ∀ (w : World) (h : Heap), YP w h → (K w.params).In h)
    (F : ∀ (w : World) (mg : Str → Option Value) (fa : Addr) (h : Heap), (K w.params).In h → h.Ns mainGlobals mg → mg d.name = some (.ref fa) →
        ∀ base : Heap, (K w.params).In base → base.Ns mainGlobals mg → ∃ fd : FuncData, FnG l.prog w (K w.params) mg base CX0 k fa fd [x] (sp (K w.params)) ∧ Binds (K w.params) fd [x] [])
    (ask : ∀ (K : PySem.W.Frag) (H : Hp) (a : Addr) (ns : List Int), ns.length ≤ 63 → SqL K H a (ns.map V.int) → sp K [.ref a] H (fun v _ => v = .bl true) fun _ _ _ => False) :
    PySem.W.WalkO q loose XP YP l.row.toRowW d [] (fun f vs => PySem.call f vs) := by
  refine Att.attach_call most df ?_
  intro w s0 s mg mb fa o pm cd doc a vs ns G Y ho hd hcd hmg ob iv hlen gens
  exact lawG (inY w _ Y) G.T.g G.T.b G.T.builtins G.T.nolimit gens ob iv (Nat.le_trans hlen (by decide)) room (F w mg fa _ (inY w _ Y) G.T.g hmg) fun H hS => ask _ H a ns hlen hS
end

/-! ### repr of data, isinstance of data -/
section
variable {K : PySem.W.Frag} {H H' : Hp}
theorem Same.sqT {a : Addr} {xs : List V} (e : Same H H') (h : SqT K H a xs) : SqT K H' a xs := by
  rcases h with (h | ⟨o, h⟩) | h
  · exact .inl (.inl (e _ _ h))
  · exact .inl (.inr ⟨o, e _ _ h⟩)
  · exact .inr h
mutual
theorem dp_mono (e : Same H H') : ∀ (d : PyData) (v : V), Dp K H v d → Dp K H' v d
  | .none, _, h => by cases h; exact .non
  | .bool b, _, h => by cases h; exact .bl b
  | .int i, _, h => by cases h; exact .int i
  | .str x, _, h => by cases h; exact .str x
  | .list ds, _, h => by
    cases h with
    | lst hs ha => exact .lst (e.seq hs) (dpAll_mono e ds _ ha)
  | .tuple ds, _, h => by
    cases h with
    | tup hs ha => exact .tup (Same.sqT e hs) (dpAll_mono e ds _ ha)
  | .dict _, _, h => by cases h
theorem dpAll_mono (e : Same H H') : ∀ (ds : List PyData) (vs : List V), DpAll K H vs ds → DpAll K H' vs ds
  | [], _, h => by cases h; exact .nil
  | d :: ds, _, h => by
    cases h with
    | cons h1 h2 => exact .cons (dp_mono e d _ h1) (dpAll_mono e ds _ h2)
end
theorem DpAll.length : ∀ {ds : List PyData} {vs : List V}, DpAll K H vs ds → vs.length = ds.length
  | _, _, .nil => rfl
  | _, _, .cons _ t => by rw [List.length_cons, List.length_cons, DpAll.length t]
theorem DpAll.get : ∀ {ds : List PyData} {vs : List V} {i : Nat} {v : V}, DpAll K H vs ds → vs[i]? = some v → ∃ d, ds[i]? = some d ∧ Dp K H v d
  | _, _, _, _, .nil, e => by simp at e
  | _, _, 0, _, .cons h _, e => by simp at e; subst e; exact ⟨_, rfl, h⟩
  | _, _, i + 1, v, .cons _ t, e => by
    obtain ⟨d, h1, h2⟩ := DpAll.get (i := i) (v := v) t (by simpa using e)
    exact ⟨d, by simpa using h1, h2⟩
theorem DpAll.append : ∀ {ds es : List PyData} {vs ws : List V}, DpAll K H vs ds → DpAll K H ws es → DpAll K H (vs ++ ws) (ds ++ es)
  | _, _, _, _, .nil, h => h
  | _, _, _, _, .cons h t, g => .cons h (DpAll.append t g)
theorem DpAll.one {v : V} {d : PyData} (h : Dp K H v d) : DpAll K H [v] [d] := .cons h .nil
theorem DpAll.take : ∀ {ds : List PyData} {vs : List V} (n : Nat), DpAll K H vs ds → DpAll K H (vs.take n) (ds.take n)
  | _, _, 0, _ => by simpa using DpAll.nil
  | _, _, _ + 1, .nil => .nil
  | _, _, n + 1, .cons h t => .cons h (DpAll.take n t)
theorem DpAll.drop : ∀ {ds : List PyData} {vs : List V} (n : Nat), DpAll K H vs ds → DpAll K H (vs.drop n) (ds.drop n)
  | _, _, 0, h => by simpa using h
  | _, _, _ + 1, .nil => .nil
  | _, _, n + 1, .cons _ t => DpAll.drop n t
/-- the name of its class -/
def tyN : PyData → String
  | .none => "NoneType"
  | .bool _ => "bool"
  | .int _ => "int"
  | .str _ => "str"
  | .list _ => "list"
  | .tuple _ => "tuple"
  | .dict _ => "dict"
theorem tyx_of {v : V} {d : PyData} (h : Dp K H v d) : TyX K H v (.type (tyN d)) := by
  cases h with
  | non => exact .base .non
  | bl b => exact .base (.bl b)
  | int i => exact .base (.int i)
  | str x => exact .base (.str x)
  | lst hs _ =>
    rcases hs with (h | ⟨o, h⟩) | ⟨o, its, n, h, hc, _⟩
    · exact .base (.lst h)
    · exact .base (.frz h)
    · exact .kList h hc
  | tup hs _ =>
    rcases hs with (h | ⟨o, h⟩) | ⟨o, its, n, h, hc, _⟩
    · exact .base (.tup h)
    · exact .fTuple h
    · exact .kTuple h hc
end
section
variable {X : Cx}
/-- repr(v), v data -/
def rRepr (K : PySem.W.Frag) : List V → Hp → VK → Prop := fun xs H Q => ∃ (v : V) (d : PyData), xs = [v] ∧ Dp K H v d ∧ Ok d ∧ Q (.str d.shown) H
theorem call_repr (gd : X.A.guards = some []) (hu : X.A.units + 64 < cLine) : CallR X (.builtin "repr") (rRepr X.K) := by
  intro pins s σ H xs us Q I rel ask
  obtain ⟨v, d, rfl, hd, ok, q⟩ := ask
  cases rel with
  | @cons _ u _ _ r1 r2 =>
    cases r2
    obtain ⟨as, rd⟩ := Dp.reads I d v u hd r1
    have big : ∀ a, u = Value.ref a → wpAny (model X.prog X.w) X.A (call (.builtin "repr") [u]) (EP X pins σ Q) X.xe s := by
      rintro a rfl
      refine repr_of_reads' rd (fine_showable d ok.1) (PyData.noDict_hsm ok.nodict) gd (by have := ok.2.1; omega) (fun _ _ z => z) (fun h' t tk hk => ?_) ok.fits
      exact ⟨.str d.shown, H, I.kept (t' := tk) hk, ⟨t, rfl⟩, q⟩
    cases hd with
    | non =>
      obtain rfl : u = Value.none := r1
      exact PySem.P.repr_of_none ⟨.str _, H, I.tok _, ⟨_, rfl⟩, q⟩
    | bl b =>
      obtain rfl : u = Value.bool b := r1
      refine PySem.P.repr_of_bool ⟨.str _, H, I.tok _, ⟨s.toks, ?_⟩, q⟩
      cases b <;> rfl
    | int i =>
      obtain ⟨t, rfl⟩ := r1
      exact PySem.P.repr_of_int (by simpa [fine] using ok.1) ⟨.str _, H, I.tok _, ⟨_, rfl⟩, q⟩
    | str x =>
      obtain ⟨t, rfl⟩ := r1
      exact PySem.P.repr_of_str ⟨.str _, H, I.tok _, ⟨_, rfl⟩, q⟩ ok.fits
    | lst _ _ => exact big _ r1
    | tup _ _ => exact big _ r1
end
section
variable {X : Cx}
/-- isinstance(v, T), v data, T a built-in class -/
def rIsD (K : PySem.W.Frag) (T : String) : List V → Hp → VK → Prop := fun xs H Q => ∃ (v : V) (d : PyData) (b : Bool), xs = [v, .ty T] ∧ Dp K H v d ∧ kitB (tyN d) T = some b ∧ Q (.bl b) H
theorem call_isD {T : String} : CallR X (.builtin "isinstance") (rIsD X.K T) := by
  intro pins s σ H xs us Q I rel ask
  obtain ⟨v, d, b, rfl, hd, e, q⟩ := ask
  exact call_isi pins s σ H _ us Q I rel ⟨v, .ty T, .type (tyN d), .type T, b, rfl, .ty T, tyx_of hd, kit_ty e, q⟩
end
def isL : PyData → Bool
  | .list _ => true
  | _ => false
def isS : PyData → Bool
  | .str _ => true
  | _ => false
def isI : PyData → Bool
  | .int _ => true
  | .bool _ => true
  | _ => false
def isB : PyData → Bool
  | .bool _ => true
  | _ => false
def isT : PyData → Bool
  | .tuple _ => true
  | _ => false
theorem kit_list : ∀ d : PyData, kitB (tyN d) "list" = some (isL d)
  | .none => (by decide +kernel : kitB "NoneType" "list" = some false)
  | .bool _ => (by decide +kernel : kitB "bool" "list" = some false)
  | .int _ => (by decide +kernel : kitB "int" "list" = some false)
  | .str _ => (by decide +kernel : kitB "str" "list" = some false)
  | .list _ => (by decide +kernel : kitB "list" "list" = some true)
  | .tuple _ => (by decide +kernel : kitB "tuple" "list" = some false)
  | .dict _ => (by decide +kernel : kitB "dict" "list" = some false)
theorem kit_str : ∀ d : PyData, kitB (tyN d) "str" = some (isS d)
  | .none => (by decide +kernel : kitB "NoneType" "str" = some false)
  | .bool _ => (by decide +kernel : kitB "bool" "str" = some false)
  | .int _ => (by decide +kernel : kitB "int" "str" = some false)
  | .str _ => (by decide +kernel : kitB "str" "str" = some true)
  | .list _ => (by decide +kernel : kitB "list" "str" = some false)
  | .tuple _ => (by decide +kernel : kitB "tuple" "str" = some false)
  | .dict _ => (by decide +kernel : kitB "dict" "str" = some false)
theorem kit_int : ∀ d : PyData, kitB (tyN d) "int" = some (isI d)
  | .none => (by decide +kernel : kitB "NoneType" "int" = some false)
  | .bool _ => (by decide +kernel : kitB "bool" "int" = some true)
  | .int _ => (by decide +kernel : kitB "int" "int" = some true)
  | .str _ => (by decide +kernel : kitB "str" "int" = some false)
  | .list _ => (by decide +kernel : kitB "list" "int" = some false)
  | .tuple _ => (by decide +kernel : kitB "tuple" "int" = some false)
  | .dict _ => (by decide +kernel : kitB "dict" "int" = some false)
theorem kit_bool : ∀ d : PyData, kitB (tyN d) "bool" = some (isB d)
  | .none => (by decide +kernel : kitB "NoneType" "bool" = some false)
  | .bool _ => (by decide +kernel : kitB "bool" "bool" = some true)
  | .int _ => (by decide +kernel : kitB "int" "bool" = some false)
  | .str _ => (by decide +kernel : kitB "str" "bool" = some false)
  | .list _ => (by decide +kernel : kitB "list" "bool" = some false)
  | .tuple _ => (by decide +kernel : kitB "tuple" "bool" = some false)
  | .dict _ => (by decide +kernel : kitB "dict" "bool" = some false)
theorem kit_tuple : ∀ d : PyData, kitB (tyN d) "tuple" = some (isT d)
  | .none => (by decide +kernel : kitB "NoneType" "tuple" = some false)
  | .bool _ => (by decide +kernel : kitB "bool" "tuple" = some false)
  | .int _ => (by decide +kernel : kitB "int" "tuple" = some false)
  | .str _ => (by decide +kernel : kitB "str" "tuple" = some false)
  | .list _ => (by decide +kernel : kitB "list" "tuple" = some false)
  | .tuple _ => (by decide +kernel : kitB "tuple" "tuple" = some true)
  | .dict _ => (by decide +kernel : kitB "dict" "tuple" = some false)
end Tx

/-! ## The text's names; what a call needs -/
namespace Tx
open PySem PySem.Spec PyProof.Rows L2

/-- the built-in names that the texts use are not the module's -/
structure Bi (mg : Str → Option Value) : Prop where
  len : mg "len" = none
  int : mg "int" = none
  abs : mg "abs" = none
  range : mg "range" = none
  enumerate : mg "enumerate" = none
  min : mg "min" = none
  max : mg "max" = none
  isinstance : mg "isinstance" = none
  repr : mg "repr" = none
  sum : mg "sum" = none
  all : mg "all" = none
  any : mg "any" = none
  list : mg "list" = none
  str : mg "str" = none
  tuple : mg "tuple" = none
  bool : mg "bool" = none
  sorted : mg "sorted" = none
  ValueError : mg "ValueError" = none
  zip : mg "zip" = none
  set : mg "set" = none
theorem bi_of {K : PySem.W.Frag} {mg : Str → Option Value} {h : Heap} (X : K.In h) (G : h.Ns mainGlobals mg)
    (z0 : PySem.W.nsIn K mainGlobals "len" = some none)
    (z1 : PySem.W.nsIn K mainGlobals "int" = some none)
    (z2 : PySem.W.nsIn K mainGlobals "abs" = some none)
    (z3 : PySem.W.nsIn K mainGlobals "range" = some none)
    (z4 : PySem.W.nsIn K mainGlobals "enumerate" = some none)
    (z5 : PySem.W.nsIn K mainGlobals "min" = some none)
    (z6 : PySem.W.nsIn K mainGlobals "max" = some none)
    (z7 : PySem.W.nsIn K mainGlobals "isinstance" = some none)
    (z8 : PySem.W.nsIn K mainGlobals "repr" = some none)
    (z9 : PySem.W.nsIn K mainGlobals "sum" = some none)
    (z10 : PySem.W.nsIn K mainGlobals "all" = some none)
    (z11 : PySem.W.nsIn K mainGlobals "any" = some none)
    (z12 : PySem.W.nsIn K mainGlobals "list" = some none)
    (z13 : PySem.W.nsIn K mainGlobals "str" = some none)
    (z14 : PySem.W.nsIn K mainGlobals "tuple" = some none)
    (z15 : PySem.W.nsIn K mainGlobals "bool" = some none)
    (z16 : PySem.W.nsIn K mainGlobals "sorted" = some none)
    (z17 : PySem.W.nsIn K mainGlobals "ValueError" = some none)
    (z18 : PySem.W.nsIn K mainGlobals "zip" = some none)
    (z19 : PySem.W.nsIn K mainGlobals "set" = some none) : Bi mg :=
  ⟨PySem.W.mg_none_of X G z0, PySem.W.mg_none_of X G z1, PySem.W.mg_none_of X G z2, PySem.W.mg_none_of X G z3, PySem.W.mg_none_of X G z4, PySem.W.mg_none_of X G z5, PySem.W.mg_none_of X G z6, PySem.W.mg_none_of X G z7, PySem.W.mg_none_of X G z8, PySem.W.mg_none_of X G z9, PySem.W.mg_none_of X G z10, PySem.W.mg_none_of X G z11, PySem.W.mg_none_of X G z12, PySem.W.mg_none_of X G z13, PySem.W.mg_none_of X G z14, PySem.W.mg_none_of X G z15, PySem.W.mg_none_of X G z16, PySem.W.mg_none_of X G z17, PySem.W.mg_none_of X G z18, PySem.W.mg_none_of X G z19⟩
/-- what a body's context gives to its calls -/
structure Ct (mg : Str → Option Value) (A : Around) (k : Nat) : Prop where
  b : Bi mg
  r : Room k A
  g : A.guards = some []
theorem Ct.mono {mg : Str → Option Value} {A : Around} {j k : Nat} (c : Ct mg A k) (h : j ≤ k) : Ct mg A j := ⟨c.b, c.r.mono h, c.g⟩
/-- a def of the module -/
def Has (K : PySem.W.Frag) (mg : Str → Option Value) (x : Str) (st : Stmt) : Prop := ∃ (f : Addr) (fd : FuncData), Fun K x x st f fd ∧ mg x = some (.ref f)
theorem has_of {K : PySem.W.Frag} {mg : Str → Option Value} {h : Heap} {x : Str} {st : Stmt} {f : Addr} {oc kV dc pm cd ct : Value} {od an : Option Addr} {sl : Array (Option Value)} (X : K.In h) (G : h.Ns mainGlobals mg)
    (a : PySem.W.nsIn K mainGlobals x = some (some (.ref f)))
    (l : K.lookup f = some ⟨oc, od, .func (PySem.W.fnOf x x (defArgs st) (defBody st) (defScope st) .none kV dc pm an cd ct), sl⟩)
    (c : PySem.W.codeIn K cd x = true) (k : PySem.W.keepIn K (.ref f) = true) : Has K mg x st :=
  ⟨f, _, fun_mk l c k, PySem.W.mg_of X G a⟩
/-- a def of the module and its promise -/
def Dfn (P : Program) (w : World) (K : PySem.W.Frag) (mg : Str → Option Value) (base : Heap) (CX : CXT) (k : Nat) (x : Str) (ps : List Str) (sp : Sp) : Prop :=
  ∃ (f : Addr) (fd : FuncData), FnG P w K mg base CX k f fd ps sp ∧ mg x = some (.ref f) ∧ PySem.W.keepIn K (.ref f) = true ∧ Binds K fd ps []
section
variable {P : Program} {w : World} {K : PySem.W.Frag} {mg : Str → Option Value} {base : Heap} {CX : CXT} {k : Nat} {x : Str} {ps N : List Str} {sp : Sp} {st : Stmt}
theorem Dfn.mono {j : Nat} (D : Dfn P w K mg base CX j x ps sp) (h : j ≤ k) : Dfn P w K mg base CX k x ps sp := by
  obtain ⟨f, fd, F, r⟩ := D
  exact ⟨f, fd, F.mono h, r⟩
/-- how the arguments bind: one pattern a number of parameters -/
def BindsBy (x : Str) (st : Stmt) (ps : List Str) : Prop := ∀ (kV doc pm : Value) (an : Option Addr) (cdv ct : Value) (us : List Value), us.length = ps.length →
  bindArgs (PySem.W.fnOf x x (defArgs st) (defBody st) (defScope st) .none kV doc pm an cdv ct) ⟨us, []⟩ = pure (ps.zip us)
/-- a def that lets nothing out, by its body -/
theorem dfn0 (h : Has K mg x st) (B : Bi mg) (S : FnScope N ps (defScope st)) (bd : BindsBy x st ps) (len : ∀ vs H Q E, sp vs H Q E → vs.length = ps.length)
    (body : ∀ (f : Addr) (cv : Value) (A : Around) (out : List Env) (s : Shared) (H : Hp) (vs : List V) (Q : VK) (E : XK),
      Ct mg (A.deeper (envOfC x (defScope st) s.heap.objs.size f cv)) k → sp vs H Q E →
      ∃ t, PSs (cxOf CX0 P w K mg base N x (defScope st) f cv A out s H E).nox (defBody st) t ∧
        t { nx := fun _ H' => Q .non H', rt := Q } (start N vs) H) :
    Dfn P w K mg base CX0 (k + 1) x ps sp := by
  obtain ⟨f, fd, F, m⟩ := h
  refine ⟨f, fd, okG F S len ?_, m, F.kp, F.binds bd⟩
  intro cv A out s H vs Q E room gd ask
  obtain ⟨t, p, q⟩ := body f cv A out s H vs Q E ⟨B, room, gd⟩ ask
  exact ⟨t, p.nox, q⟩
/-- a def that may raise -/
theorem dfnX (h : Has K mg x st) (B : Bi mg) (S : FnScope N ps (defScope st)) (bd : BindsBy x st ps) (len : ∀ vs H Q E, sp vs H Q E → vs.length = ps.length)
    (body : ∀ (f : Addr) (cv : Value) (A : Around) (out : List Env) (s : Shared) (H : Hp) (vs : List V) (Q : VK) (E : XK),
      Ct mg (A.deeper (envOfC x (defScope st) s.heap.objs.size f cv)) k → sp vs H Q E →
      ∃ t, PSs (cxOf (L2.CX P w) P w K mg base N x (defScope st) f cv A out s H E) (defBody st) t ∧
        t { nx := fun _ H' => Q .non H', rt := Q } (start N vs) H) :
    Dfn P w K mg base (L2.CX P w) (k + 1) x ps sp := by
  obtain ⟨f, fd, F, m⟩ := h
  refine ⟨f, fd, okG F S len ?_, m, F.kp, F.binds bd⟩
  intro cv A out s H vs Q E room gd ask
  exact body f cv A out s H vs Q E ⟨B, room, gd⟩ ask
/-- nothing is promised -/
theorem dfn_none (h : Has K mg x st) (bd : BindsBy x st ps) (no : ∀ vs H Q E, ¬ sp vs H Q E) : Dfn P w K mg base CX0 0 x ps sp := by
  obtain ⟨f, fd, F, m⟩ := h
  exact ⟨f, fd, ⟨fun vs H Q E z => absurd z (no vs H Q E), fun A out s H ar us vs Q E _ _ _ _ _ z => absurd z (no vs H Q E)⟩, m, F.kp, F.binds bd⟩
end
section
variable {X : Cx} {CX : CXT} {j k : Nat} {ps : List Str} {sp : Sp} {E : XK} {x : Str} {p pos : Pos} {e : Expr} {es : List Expr} {t : TA}
/-- f(e, ..), f a def of the module -/
theorem pe_d (D : Dfn X.prog X.w X.K X.mg X.base CX0 j x ps sp) (c : Ct X.mg X.A k) (h : j ≤ k) (gl : Gl X x) (args : PA X (e :: es) t)
    (nd : (x == ("__debug__" : Str)) = false := by decide)
    (plain : starEach (e :: es) X.env = (false, eval e X.env) :: starEach es X.env := by rfl)
    (bare : (backTo pos (starEach es X.env)).any (·.1) = false := by rfl) :
    PE X (.Call (.Name x p) (e :: es) [] pos) (tCall sp [] E0 t) := by
  obtain ⟨f, fd, F, m, kp, bd⟩ := D
  exact pe_callG F (c.r.mono h) c.g gl m kp bd .nil pass0 args nd plain bare
end
/-- the law's own def, for the end -/
theorem to_law {P : Program} {w : World} {K : PySem.W.Frag} {mg : Str → Option Value} {base : Heap} {k : Nat} {x y : Str} {sp : Sp} {fa : Addr} (m : mg x = some (.ref fa)) (D : Dfn P w K mg base CX0 k x [y] sp) :
    ∃ fd : FuncData, FnG P w K mg base CX0 k fa fd [y] sp ∧ Binds K fd [y] [] := by
  obtain ⟨f, fd, F, m2, _, bd⟩ := D
  rw [m] at m2
  cases m2
  exact ⟨fd, F, bd⟩
/-! ### heaps -/
/-- of all addresses but b, what stood stands -/
def SameBut (b : Addr) (H H' : Hp) : Prop := ∀ a o, a ≠ b → H a = some o → H' a = some o
theorem SameBut.refl {b : Addr} {H : Hp} : SameBut b H H := fun _ _ _ h => h
theorem SameBut.trans {b : Addr} {H H1 H2 : Hp} (h : SameBut b H H1) (g : SameBut b H1 H2) : SameBut b H H2 := fun a o n e => g a o n (h a o n e)
theorem SameBut.of {b : Addr} {H H' : Hp} (h : Same H H') : SameBut b H H' := fun a o _ e => h a o e
theorem same_new {H : Hp} {p : Addr} (h : H p = none) (o : HO) : Same H (upd H p o) := fun b u q => by rw [upd_ne (ne_of_none q h)]; exact q
theorem sameBut_upd {H : Hp} {b : Addr} {o : HO} : SameBut b H (upd H b o) := fun a u n e => by rw [upd_ne n]; exact e
end Tx

/-! ## The law's draws: any number below the bound; the bag, a list of two numbers at b, changes -/
namespace Tx
open PySem PySem.Spec PyProof.Rows L2
def top (i : Nat) : Stmt := PySem.Challenge.pw_textorlist_k17_shapes_changed_in_place.main.body.getD i (.Pass ⟨0, 0, 0, 0⟩)
theorem cutV_get {xs : List V} {lo hi : Option Int} {i : Nat} {v : V} (h : (cutV xs lo hi)[i]? = some v) : ∃ j : Nat, xs[j]? = some v := by
  unfold cutV at h
  rw [List.getElem?_take] at h
  split at h
  · rw [List.getElem?_drop] at h
    exact ⟨_, h⟩
  · cases h
theorem atI_of {α : Type} {xs : List α} {i : Int} (h0 : 0 ≤ i) (h1 : i < (xs.length : Int)) : ∃ v, atI xs i = some v ∧ xs[i.toNat]? = some v := by
  obtain ⟨n, rfl⟩ := Int.eq_ofNat_of_zero_le h0
  have hn : n < xs.length := by omega
  have e : xs[n]? = some xs[n] := List.getElem?_eq_getElem hn
  exact ⟨_, atI_nat e, e⟩
theorem int_of_get {ns : List Int} {j : Nat} {v : V} (h : (ns.map V.int)[j]? = some v) : ∃ z, v = V.int z := by
  rw [List.getElem?_map] at h
  cases e : ns[j]? with
  | none => rw [e] at h; cases h
  | some z => rw [e] at h; exact ⟨z, (Option.some.inj h).symm⟩
/-- the bag stands at b -/
def Bag (H : Hp) (b : Addr) : Prop := ∃ c m : Int, H b = some (.lst [.int c, .int m])
/-- from H to H' the bag at b may have changed, and there may be new things -/
structure Stp (b : Addr) (H H' : Hp) : Prop where
  bag : Bag H' b
  keep : SameBut b H H'
theorem Stp.trans {b : Addr} {H H1 H2 : Hp} (x : Stp b H H1) (y : Stp b H1 H2) : Stp b H H2 := ⟨y.bag, x.keep.trans y.keep⟩
theorem Stp.new {b p : Addr} {H H1 : Hp} (x : Stp b H H1) (h : H1 p = none) (o : HO) : Stp b H (upd H1 p o) := by
  obtain ⟨c, m, e⟩ := x.bag
  exact ⟨⟨c, m, by rw [upd_ne (ne_of_none e h)]; exact e⟩, x.keep.trans (SameBut.of (same_new h o))⟩
theorem Stp.refl {b : Addr} {H : Hp} (h : Bag H b) : Stp b H H := ⟨h, SameBut.refl⟩
theorem Stp.same {b : Addr} {H H1 H2 : Hp} (x : Stp b H H1) (y : Same H1 H2) : Stp b H H2 := by
  obtain ⟨c, m, e⟩ := x.bag
  exact ⟨⟨c, m, y _ _ e⟩, x.keep.trans (SameBut.of y)⟩
end Tx

namespace Tx
open PySem PySem.Spec PyProof.Rows L2
/-! ## The law's draws -/
abbrev sTake : Stmt := top 22
theorem scTake : FnScope ["_law_bag_here", "_law_many_here", "_law_digit"] ["_law_bag_here", "_law_many_here"] (defScope sTake) := ⟨rfl, rfl, rfl, by decide +kernel, rfl, by decide +kernel, by decide +kernel⟩
abbrev sBag : Stmt := top 21
theorem scBag : FnScope ["_law_script", "_law_at", "_law_cell", "_law_mixed", "_law_place", "_law_each"] ["_law_script", "_law_at"] (defScope sBag) := ⟨rfl, rfl, rfl, by decide +kernel, rfl, by decide +kernel, by decide +kernel⟩
/-- take(bag, n): a number from 0 to n - 1 -/
def spTake : Sp := fun vs H Q _ => ∃ (b : Addr) (n : Int), vs = [.ref b, .int n] ∧ Bag H b ∧ 0 < n ∧ n < 1073741824 ∧
  ∀ (r : Int) (H' : Hp), 0 ≤ r → r < n → Stp b H H' → Q (.int r) H'
/-- bag(script, at): a new bag -/
def spBag (K : PySem.W.Frag) : Sp := fun vs H Q _ => ∃ (a : Addr) (ns : List Int) (i : Int), vs = [.ref a, .int i] ∧ SqL K H a (ns.map V.int) ∧ 0 ≤ i ∧ i < 1000 ∧
  ∀ (b : Addr) (H' : Hp), Same H H' → H b = none → Bag H' b → Q (.ref b) H'
section
variable {P : Program} {w : World} {K : PySem.W.Frag} {mg : Str → Option Value} {base : Heap}
theorem d_take (h : Has K mg "_law_take" sTake) (B : Bi mg) : Dfn P w K mg base CX0 1 "_law_take" ["_law_bag_here", "_law_many_here"] spTake := by
  refine dfn0 h B scTake (fun _ _ _ _ _ _ us hl => match us, hl with | [_, _], _ => rfl) (fun vs H Q E h => ?_) (fun f cv A out s H vs Q E c h => ?_)
  · obtain ⟨b, n, rfl, _⟩ := h
    rfl
  obtain ⟨b, n, rfl, ⟨x, m, hb⟩, n0, n1, q⟩ := h
  refine ⟨_, (pss_cons (ps_if (pt_cmpR op_gt (pe_ix ix_list (pv 0) pe_int (fun _ _ => rfl)) pe_int (nomark _)) (pss_cons (ps_set (i := 2) scTake.nd rfl (Or.inl rfl) (pe_op op_mod (pe_callTy call_int1 (by rfl) c.b.int (by decide +kernel) (pa_cons (pe_ix ix_list (pv 0) pe_int (fun _ _ => rfl)) pa_nil)) (pv 1)))
    (pss_cons (ps_asg (pe_op op_fdiv (pe_ix ix_list (pv 0) pe_int (fun _ _ => rfl)) (pv 1)) (pg_sub (pv 0) pe_int set_list))
    (pss_one (ps_ret (pv 2))))) pss_nil)
    (pss_cons (ps_asg (pe_op op_mod (pe_callTy call_int1 (by rfl) c.b.int (by decide +kernel) (pa_cons (pe_op op_add (pe_op op_mul (pe_ix ix_list (pv 0) pe_int (fun _ _ => rfl)) pe_int) pe_int) pa_nil)) pe_int) (pg_sub (pv 0) pe_int set_list))
    (pss_one (ps_ret (pe_op op_mod (pe_op op_fdiv (pe_op op_mod (pe_callTy call_int1 (by rfl) c.b.int (by decide +kernel) (pa_cons (pe_op op_mul (pe_op op_fdiv (pe_ix ix_list (pv 0) pe_int (fun _ _ => rfl)) pe_int) pe_int) pa_nil)) pe_int) pe_int) (pv 1)))))), ?_⟩
  refine ⟨_, rfl, b, _, _, _, rfl, rfl, SqL.of hb, atI_nat rfl, _, _, rfl, rfl, _, rfl, ?_⟩
  refine ite2 (fun _ => ?_) (fun _ => ?_)
  · refine ⟨_, rfl, b, _, _, _, rfl, rfl, SqL.of hb, atI_nat rfl, .inl ⟨_, rfl, ?_⟩⟩
    refine ⟨_, rfl, _, _, rfl, rfl, n0, ?_⟩
    refine ⟨_, rfl, b, _, _, _, rfl, rfl, SqL.of hb, atI_nat rfl, _, rfl, _, _, rfl, rfl, ⟨n0, n1⟩, ?_⟩
    refine ⟨_, rfl, b, _, _, 0, rfl, rfl, hb, rfl, ?_⟩
    refine ⟨_, rfl, q _ _ (Int.emod_nonneg _ (by omega)) (Int.emod_lt_of_pos _ n0) ⟨⟨_, _, upd_same⟩, sameBut_upd⟩⟩
  · refine ⟨_, rfl, b, _, _, _, rfl, rfl, SqL.of hb, atI_nat rfl, _, _, rfl, rfl, .inr ⟨by decide, by decide⟩, _, _, rfl, rfl, .inl ⟨_, rfl, ?_⟩⟩
    refine ⟨_, _, rfl, rfl, (by show (0 : Int) < 2147483629; decide), ?_⟩
    refine ⟨_, rfl, b, _, _, 1, rfl, rfl, hb, rfl, ?_⟩
    refine ⟨_, rfl, b, _, _, _, rfl, rfl, SqL.of upd_same, atI_nat rfl, _, _, rfl, rfl, ⟨by decide, by decide⟩, _, _, rfl, rfl, .inr ⟨by decide, by decide⟩, .inl ⟨_, rfl, ?_⟩⟩
    refine ⟨_, _, rfl, rfl, (by show (0 : Int) < 2147483587; decide), _, _, rfl, rfl, ⟨by decide, by decide⟩, _, rfl, _, _, rfl, rfl, n0, ?_⟩
    exact q _ _ (Int.emod_nonneg _ (by omega)) (Int.emod_lt_of_pos _ n0) ⟨⟨_, _, upd_same⟩, sameBut_upd⟩
theorem d_bag (h : Has K mg "_law_bag" sBag) (B : Bi mg) : Dfn P w K mg base CX0 1 "_law_bag" ["_law_script", "_law_at"] (spBag K) := by
  refine dfn0 h B scBag (fun _ _ _ _ _ _ us hl => match us, hl with | [_, _], _ => rfl) (fun vs H Q E h => ?_) (fun f cv A out s H vs Q E c h => ?_)
  · obtain ⟨a, ns, i, rfl, _⟩ := h
    rfl
  obtain ⟨a, ns, i, rfl, hS, i0, i1, q⟩ := h
  refine ⟨_, (pss_cons (ps_par (i := 2) (j := 3) rfl scBag.nd rfl rfl (by decide) rfl rfl (pa_cons (pe_ifExp (pt_cmpR op_lt (pv 1) (pe_callB call_len_seq (by rfl) c.b.len PySem.boot_len (pa_cons (pv 0) pa_nil)) (nomark _)) (pe_callB call_abs (by rfl) c.b.abs (by decide +kernel) (pa_cons (pe_ix ix_list (pv 0) (pv 1) (fun _ _ => rfl)) pa_nil)) pe_int) (pa_cons (pe_op op_add (pe_op op_mul pe_int (pv 1)) pe_int) pa_nil)) (by rfl))
    (pss_cons (ps_for PassesOwn.never rfl (pi_enum (by rfl) c.b.enumerate (pa_cons (pe_slice sl_list (pv 0) po_none (po_some pe_int)) pa_nil)) (pg_tup rfl (pgs_cons (pg_name (i := 4) scBag.nd rfl (Or.inl rfl)) (pgs_cons (pg_name (i := 5) scBag.nd rfl (Or.inl rfl)) pgs_nil)))
    (pss_one (ps_set (i := 3) scBag.nd rfl (Or.inl rfl) (pe_op op_mod (pe_callTy call_int1 (by rfl) c.b.int (by decide +kernel) (pa_cons (pe_op op_add (pe_op op_add (pe_op op_mul (pv 3) pe_int) (pe_op op_mod (pe_callTy call_int1 (by rfl) c.b.int (by decide +kernel) (pa_cons (pv 5) pa_nil)) pe_int)) (pe_op op_mul pe_int (pv 4))) pa_nil)) pe_int))))
    (pss_one (ps_ret (pe_lst (pa_cons (pe_ifExp (pt_cmpR op_ge (pv 2) (pe_op op_pow pe_int pe_int) (nomark _)) (pv 2) pe_int) (pa_cons (pv 3) pa_nil))))))), ?_⟩
  have hl : (ns.map V.int).length = ns.length := List.length_map _
  refine ⟨_, rfl, _, rfl, a, _, rfl, .inl hS, _, _, rfl, rfl, _, rfl, ?_⟩
  refine ite2 (fun lt => ?one) (fun _ => ?two)
  case' one =>
    have lt' : i < (((ns.map V.int).length : Nat) : Int) := of_decide_eq_true lt
    obtain ⟨y, at_i, e2⟩ := atI_of i0 lt'
    obtain ⟨z, rfl⟩ := int_of_get e2
    refine ⟨_, rfl, _, rfl, a, _, _, _, rfl, rfl, hS, at_i, _, rfl, ?_⟩
  all_goals
    refine ⟨_, rfl, _, _, rfl, rfl, .inl ⟨by decide, by decide⟩, _, _, rfl, rfl, _, _, rfl, ?_⟩
    refine ⟨_, rfl, _, rfl, a, _, rfl, hS, fun p hp => ?_⟩
    have sp : Same H (upd H p (.lst (cutV (ns.map V.int) none (some 63)))) := same_new hp _
    refine ⟨p, _, rfl, SqL.of upd_same, ?_⟩
    refine for_it (walk_enum (K := K) (a := p) (xs := cutV (ns.map V.int) none (some 63)))
      (fun _ σ H' => ∃ (x m : Int) (u v : Option V), σ = [some (.ref a), some (.int i), some (.int x), some (.int m), u, v] ∧ Same (upd H p (.lst (cutV (ns.map V.int) none (some 63)))) H')
      ⟨_, _, none, none, rfl, Same.refl _⟩ (fun _ σ H' _ ⟨_, _, _, _, _, sm⟩ => sm.seq (SqL.of upd_same)) ?_ ?_
    · rintro t y σ H1 H2 ht ⟨x, m, u, v, rfl, sm⟩ ⟨T, y1, y2, rfl, hT, rfl, e1, e2⟩
      cases e1
      obtain ⟨j, e3⟩ := cutV_get e2
      obtain ⟨z, rfl⟩ := int_of_get e3
      refine ⟨T, _, rfl, SqT.of upd_same, rfl, _, _, rfl, _, _, rfl, rfl, ?_⟩
      refine ⟨_, rfl, _, _, rfl, rfl, .inr ⟨by decide, by decide⟩, _, rfl, .inl ⟨_, rfl, ?_⟩⟩
      refine ⟨_, _, rfl, rfl, (by show (0 : Int) < 2147483629; decide), _, _, rfl, rfl, _, rfl, _, _, rfl, rfl, .inl ⟨by decide, by decide⟩, _, _, rfl, rfl, .inl ⟨_, rfl, ?_⟩⟩
      refine ⟨_, _, rfl, rfl, (by show (0 : Int) < 2147483647; decide), ?_⟩
      exact ⟨_, _, _, _, rfl, sm.trans (same_new hT _)⟩
    · rintro σ H1 ⟨x, m, u, v, rfl, sm⟩
      refine ⟨_, rfl, _, _, rfl, rfl, ⟨by decide, by decide, by decide⟩, _, _, rfl, rfl, _, rfl, ?_⟩
      refine ite2 (fun _ => ?_) (fun _ => ?_)
      · refine ⟨_, rfl, _, rfl, (by show 2 ≤ sizeLine; decide), fun b hb => ?_⟩
        exact q b _ (sp.trans (sm.trans (same_new hb _))) (sp.free (sm.free hb)) ⟨_, _, upd_same⟩
      · refine ⟨_, rfl, (by show 2 ≤ sizeLine; decide), fun b hb => ?_⟩
        exact q b _ (sp.trans (sm.trans (same_new hb _))) (sp.free (sm.free hb)) ⟨_, _, upd_same⟩
end
end Tx

/-! ## Values: nothing, texts, lists; their sizes -/
namespace Tx
open PySem PySem.Spec PyProof.Rows L2
/-- letters a to z alone -/
def ltr (x : Str) : Bool := x.cps.toList.all fun c => decide (97 ≤ c ∧ c ≤ 122)
mutual
def isVal : PyData → Bool
  | .none => true
  | .str x => ltr x
  | .list xs => isValAll xs
  | _ => false
def isValAll : List PyData → Bool
  | [] => true
  | x :: xs => isVal x && isValAll xs
end
mutual
def szD : PyData → Nat
  | .str x => 1 + x.length
  | .list xs => 1 + szAll xs
  | _ => 1
def szAll : List PyData → Nat
  | [] => 0
  | x :: xs => szD x + szAll xs
end
theorem isValAll_iff : ∀ {xs : List PyData}, isValAll xs = true ↔ ∀ d ∈ xs, isVal d = true
  | [] => by simp [isValAll]
  | x :: xs => by simp [isValAll, isValAll_iff (xs := xs)]
theorem szAll_append : ∀ (xs ys : List PyData), szAll (xs ++ ys) = szAll xs + szAll ys
  | [], ys => by simp [szAll]
  | x :: xs, ys => by simp only [List.cons_append, szAll, szAll_append xs ys]; omega
theorem szAll_eq : ∀ xs : List PyData, szAll xs = (xs.map szD).sum
  | [] => rfl
  | x :: xs => by simp only [szAll, List.map_cons, List.sum_cons, szAll_eq xs]
theorem szD_pos : ∀ d : PyData, 1 ≤ szD d
  | .none => by simp [szD]
  | .bool _ => by simp [szD]
  | .int _ => by simp [szD]
  | .str _ => by simp [szD]
  | .list _ => by simp [szD]
  | .tuple _ => by simp [szD]
  | .dict _ => by simp [szD]
theorem len_le_szAll : ∀ xs : List PyData, xs.length ≤ szAll xs
  | [] => by simp [szAll]
  | x :: xs => by
    have := len_le_szAll xs
    have := szD_pos x
    simp only [szAll, List.length_cons]
    omega
theorem szD_mem : ∀ {xs : List PyData} {d : PyData}, d ∈ xs → szD d ≤ szAll xs
  | [], d, h => by simp at h
  | x :: xs, d, h => by
    simp only [szAll]
    cases h with
    | head => omega
    | tail _ h => have := szD_mem h; omega
theorem szAll_le {B : Nat} : ∀ {xs : List PyData}, (∀ d ∈ xs, szD d ≤ B) → szAll xs ≤ B * xs.length
  | [], _ => by simp [szAll]
  | x :: xs, h => by
    have h1 := h x List.mem_cons_self
    have h2 := szAll_le (B := B) (xs := xs) fun d hd => h d (List.mem_cons_of_mem _ hd)
    simp only [szAll, List.length_cons, Nat.mul_add, Nat.mul_one]
    omega
mutual
theorem val_fine : ∀ d : PyData, isVal d = true → fine d = true
  | .none, _ => rfl
  | .str x, h => by
    simp only [isVal, ltr, List.all_eq_true, decide_eq_true_eq] at h
    simp only [fine, List.all_eq_true, decide_eq_true_eq]
    intro c hc
    have := h c hc
    omega
  | .list xs, h => by simp only [isVal] at h; simp only [fine]; exact valAll_fine xs h
  | .bool _, h => by simp [isVal] at h
  | .int _, h => by simp [isVal] at h
  | .tuple _, h => by simp [isVal] at h
  | .dict _, h => by simp [isVal] at h
theorem valAll_fine : ∀ xs : List PyData, isValAll xs = true → fineAll xs = true
  | [], _ => rfl
  | x :: xs, h => by
    simp only [isValAll, Bool.and_eq_true] at h
    simp only [fineAll, val_fine x h.1, valAll_fine xs h.2, Bool.and_self]
end
mutual
theorem val_wt : ∀ d : PyData, isVal d = true → wt d + 2 ≤ 12 * szD d
  | .none, _ => by simp [wt, szD]
  | .str x, _ => by simp only [wt, szD]; omega
  | .list xs, h => by
    simp only [isVal] at h
    have := valAll_wt xs h
    simp only [wt, szD]
    omega
  | .bool _, h => by simp [isVal] at h
  | .int _, h => by simp [isVal] at h
  | .tuple _, h => by simp [isVal] at h
  | .dict _, h => by simp [isVal] at h
theorem valAll_wt : ∀ xs : List PyData, isValAll xs = true → wtAll xs ≤ 12 * szAll xs
  | [], _ => by simp [wtAll, szAll]
  | x :: xs, h => by
    simp only [isValAll, Bool.and_eq_true] at h
    have h1 := val_wt x h.1
    have h2 := valAll_wt xs h.2
    simp only [wtAll, szAll]
    omega
end
/-- a value of at most such a depth and size -/
structure Val (n m : Nat) (d : PyData) : Prop where
  val : isVal d = true
  deep : d.depth ≤ n
  size : szD d ≤ m
theorem Val.mono {n m n' m' : Nat} {d : PyData} (h : Val n m d) (h1 : n ≤ n') (h2 : m ≤ m') : Val n' m' d := ⟨h.val, Nat.le_trans h.deep h1, Nat.le_trans h.size h2⟩
theorem Val.ok {n m : Nat} {d : PyData} (h : Val n m d) (hn : n ≤ 60) (hm : m ≤ 1000000) : Ok d := by
  have h1 := val_wt d h.val
  have h2 := h.size
  exact ⟨val_fine d h.val, Nat.le_trans h.deep hn, by omega⟩
theorem Val.item {n m : Nat} {ds : List PyData} (h : Val n m (.list ds)) {d : PyData} (hd : d ∈ ds) : Val (n - 1) (m - 1) d := by
  have hv := h.val
  have hn := h.deep
  have hm := h.size
  simp only [isVal] at hv
  simp only [PyData.depth] at hn
  simp only [szD] at hm
  have := depth_mem hd
  have := szD_mem hd
  exact ⟨isValAll_iff.mp hv d hd, by omega, by omega⟩
/-- what is at hand can be read in J; the bag at b is none of it; from H to H' the bag may have changed, J has grown to J' by new things -/
structure Gro (b : Addr) (J H J' H' : Hp) : Prop where
  st : Stp b H H'
  jj : Same J J'
  jh : Same J' H'
  fr : ∀ a, H a ≠ none → J a = none → J' a = none
section
variable {b : Addr} {J J1 J2 H H1 H2 : Hp}
theorem Stp.gro (h : Stp b H H1) (hb : J b = none) (s : Same J H) : Gro b J H J H1 :=
  ⟨h, Same.refl _, fun a o e => h.keep a o (fun z => by rw [z, hb] at e; cases e) (s a o e), fun _ _ n => n⟩
theorem Gro.refl (h : Bag H b) (s : Same J H) : Gro b J H J H := ⟨Stp.refl h, Same.refl _, s, fun _ _ n => n⟩
theorem Gro.noBag (g : Gro b J H J1 H1) (hB : Bag H b) (hb : J b = none) : J1 b = none := by
  obtain ⟨c, m, e⟩ := hB
  exact g.fr b (by rw [e]; simp) hb
theorem Stp.there (h : Stp b H H1) (hB : Bag H b) {a : Addr} (n : H a ≠ none) : H1 a ≠ none := by
  by_cases e : a = b
  · subst e
    obtain ⟨c, m, e⟩ := h.bag
    rw [e]; simp
  · cases q : H a with
    | none => exact absurd q n
    | some o => rw [h.keep a o e q]; simp
theorem Gro.trans (g : Gro b J H J1 H1) (k : Gro b J1 H1 J2 H2) (hB : Bag H b) : Gro b J H J2 H2 :=
  ⟨g.st.trans k.st, g.jj.trans k.jj, k.jh, fun a n e => k.fr a (g.st.there hB n) (g.fr a n e)⟩
/-- a further step that leaves what is at hand -/
theorem Gro.step (g : Gro b J H J1 H1) (h : Stp b H1 H2) (hB : Bag H b) (hb : J b = none) : Gro b J H J1 H2 := g.trans (h.gro (g.noBag hB hb) g.jh) hB
/-- a new thing -/
theorem Gro.new (g : Gro b J H J1 H1) {p : Addr} (hp : H1 p = none) (o : HO) : Gro b J H J1 (upd H1 p o) :=
  ⟨g.st.new hp o, g.jj, g.jh.trans (same_new hp o), g.fr⟩
/-- a new thing that is at hand -/
theorem Gro.add (g : Gro b J H J1 H1) (hB : Bag H b) {p : Addr} (hp : H1 p = none) (o : HO) : Gro b J H (upd J1 p o) (upd H1 p o) := by
  have hj : J1 p = none := g.jh.free hp
  refine ⟨g.st.new hp o, g.jj.trans (same_new hj o), fun a u e => ?_, fun a n e => ?_⟩
  · by_cases z : a = p
    · subst z; rw [upd_same] at e ⊢; exact e
    · rw [upd_ne z] at e ⊢; exact g.jh a u e
  · have z : a ≠ p := fun z => g.st.there hB n (by rw [z]; exact hp)
    rw [upd_ne z]
    exact g.fr a n e
/-- a thing of one's own, new since H, comes to hand -/
theorem Gro.own (g : Gro b J H J1 H1) {p : Addr} {o : HO} (hp : H1 p = some o) (hn : H p = none) (hj : J1 p = none) : Gro b J H (upd J1 p o) H1 := by
  refine ⟨g.st, g.jj.trans (same_new hj o), fun a u e => ?_, fun a n e => ?_⟩
  · by_cases z : a = p
    · subst z; rw [upd_same] at e; rw [← e]; exact hp
    · rw [upd_ne z] at e; exact g.jh a u e
  · have z : a ≠ p := fun z => n (by rw [z]; exact hn)
    rw [upd_ne z]
    exact g.fr a n e
theorem Stp.free (h : Stp b H H1) (hB : Bag H b) {r : Addr} (n : H1 r = none) : H r = none := by
  cases q : H r with
  | none => rfl
  | some o => exact absurd n (h.there hB (by rw [q]; simp))
theorem Stp.ne (h : Stp b H H1) {r : Addr} (n : H1 r = none) : r ≠ b := fun z => by
  obtain ⟨_, _, e⟩ := h.bag
  rw [← z, n] at e
  cases e
theorem same_upd {J H : Hp} {r : Addr} {o : HO} (s : Same J H) (n : J r = none) : Same J (upd H r o) := fun a u e => by
  rw [upd_ne (ne_of_none e n)]
  exact s a u e
/-- a thing of one's own is changed -/
theorem Gro.mut (g : Gro b J H J1 H1) {r : Addr} (hr : H r = none) (hj : J1 r = none) (rb : r ≠ b) (o : HO) : Gro b J H J1 (upd H1 r o) := by
  obtain ⟨c, m, e⟩ := g.st.bag
  exact ⟨⟨⟨c, m, by rw [upd_ne (Ne.symm rb)]; exact e⟩, fun a u n z => by rw [upd_ne (ne_of_none z hr)]; exact g.st.keep a u n z⟩, g.jj, same_upd g.jh hj, g.fr⟩
theorem Gro.same (g : Gro b J H J1 H1) (s : Same H1 H2) : Gro b J H J1 H2 := ⟨g.st.same s, g.jj, g.jh.trans s, g.fr⟩
end
end Tx

namespace Tx
open PySem PySem.Spec PyProof.Rows L2
/-! ## Texts of letters, plain -/
theorem sum_int : ∀ ds : List PyData, (ds.map fun d => (szD d : Int)).sum = (((ds.map szD).sum : Nat) : Int)
  | [] => rfl
  | x :: xs => by simp only [List.map_cons, List.sum_cons, sum_int xs]; omega
theorem ltr_append {x y : Str} (hx : ltr x = true) (hy : ltr y = true) : ltr (x ++ y) = true := by
  have e : (x ++ y).cps = x.cps ++ y.cps := rfl
  unfold ltr at *
  rw [e, Array.toList_append, List.all_append, hx, hy]
  rfl
theorem ltr_get {x : Str} (hx : ltr x = true) {i : Nat} {c : Nat} (h : x.cps.toList[i]? = some c) : ltr ⟨#[c]⟩ = true := by
  unfold ltr at *
  have hc := List.all_eq_true.mp hx c (List.mem_of_getElem? h)
  simp only [List.all_cons, List.all_nil, Bool.and_true]
  exact hc
end Tx

/-! ## The law's drawn values -/
namespace Tx
open PySem PySem.Spec PyProof.Rows L2
abbrev sText : Stmt := top 23
theorem scText : FnScope ["_law_bag_here", "_law_most", "_law_turn", "_law_word", "_law_signs"] ["_law_bag_here", "_law_most"] (defScope sText) := ⟨rfl, rfl, rfl, by decide +kernel, rfl, by decide +kernel, by decide +kernel⟩
abbrev sSize : Stmt := top 24
theorem scSize : FnScope ["_law_value_here", "_law_one"] ["_law_value_here"] (defScope sSize) := ⟨rfl, rfl, rfl, by decide +kernel, rfl, by decide +kernel, by decide +kernel⟩
/-- text(bag, m): letters, at most m -/
def spText : Sp := fun vs H Q _ => ∃ (b : Addr) (m : Int), vs = [.ref b, .int m] ∧ Bag H b ∧ 0 ≤ m ∧ m < 1000 ∧
  ∀ (x : Str) (H' : Hp), ltr x = true → (x.length : Int) ≤ m → Stp b H H' → Q (.str x) H'
/-- size(v), v less deep than n -/
def spSize (K : PySem.W.Frag) (n : Nat) : Sp := fun vs H Q _ => ∃ (v : V) (d : PyData), vs = [v] ∧ Dp K H v d ∧ isVal d = true ∧ d.depth < n ∧ szD d ≤ 1000000 ∧
  ∀ H', Same H H' → Q (.int (szD d)) H'
section
variable {P : Program} {w : World} {K : PySem.W.Frag} {mg : Str → Option Value} {base : Heap}
theorem d_text (h : Has K mg "_law_text" sText) (B : Bi mg) (D_law_take : Dfn P w K mg base CX0 1 "_law_take" ["_law_bag_here", "_law_many_here"] spTake) :
    Dfn P w K mg base CX0 2 "_law_text" ["_law_bag_here", "_law_most"] spText := by
  refine dfn0 h B scText (fun _ _ _ _ _ _ us hl => match us, hl with | [_, _], _ => rfl) (fun vs H Q E h => ?_) (fun f cv A out s H vs Q E c h => ?_)
  · obtain ⟨b, m, rfl, _⟩ := h
    rfl
  obtain ⟨b, m, rfl, hB, m0, m1, q⟩ := h
  refine ⟨_, (pss_cons (ps_par (i := 3) (j := 4) rfl scText.nd rfl rfl (by decide) rfl rfl (pa_cons pe_str (pa_cons (pe_ix ix_list (pe_lst (pa_cons pe_str (pa_cons pe_str (pa_cons pe_str pa_nil)))) (pe_d D_law_take c (by omega) (by rfl) (pa_cons (pv 0) (pa_cons pe_int pa_nil))) (fun _ _ => rfl)) pa_nil)) (by rfl))
    (pss_cons (ps_for PassesOwn.never rfl (pi_range1 (by rfl) c.b.range (pa_cons (pe_d D_law_take c (by omega) (by rfl) (pa_cons (pv 0) (pa_cons (pe_op op_add (pv 1) pe_int) pa_nil))) pa_nil)) (pg_name (i := 2) scText.nd rfl (Or.inl rfl))
    (pss_one (ps_set (i := 3) scText.nd rfl (Or.inl rfl) (pe_op op_add_str (pv 3) (pe_ix ix_str (pv 4) (pe_d D_law_take c (by omega) (by rfl) (pa_cons (pv 0) (pa_cons (pe_callB call_len_str (by rfl) c.b.len PySem.boot_len (pa_cons (pv 4) pa_nil)) pa_nil))) (fun _ _ => rfl))))))
    (pss_one (ps_ret (pv 3))))), ?_⟩
  refine ⟨(by show 3 ≤ sizeLine; decide), fun p hp => ⟨_, rfl, b, 3, rfl, ((Stp.refl hB).new hp _).bag, by decide, by decide, fun r H1 r0 r1 st => ?_⟩⟩
  have nb : p ≠ b := fun z => by obtain ⟨_, _, e⟩ := hB; rw [← z, hp] at e; cases e
  have st1 : Stp b H H1 := ((Stp.refl hB).new hp _).trans st
  obtain ⟨v, e1, e2⟩ := atI_of (xs := [V.str "abcdefghijklmnopqrstuvwxyz", V.str "ab", V.str "za"]) r0 r1
  have sg : ∃ g : Str, v = .str g ∧ ltr g = true ∧ 1 ≤ g.length ∧ g.length ≤ 26 := by
    have h3 : r.toNat = 0 ∨ r.toNat = 1 ∨ r.toNat = 2 := by omega
    rcases h3 with z | z | z <;> rw [z] at e2 <;> cases e2 <;> exact ⟨_, rfl, by decide, by decide, by decide⟩
  obtain ⟨g, rfl, gl, g1, g2⟩ := sg
  refine ⟨p, _, _, _, rfl, rfl, SqL.of (st.keep p _ nb upd_same), e1, _, _, rfl, ?_⟩
  refine ⟨_, rfl, _, rfl, _, _, rfl, rfl, b, m + 1, rfl, st1.bag, by omega, by omega, fun n H2 n0 n1 st2 => ?_⟩
  refine ⟨n, rfl, by omega, by omega, ?_⟩
  refine for_range (lo := 0) (n := n.toNat) (fun i σ H' => ∃ (x : Str) (u : Option V), σ = [some (.ref b), some (.int m), u, some (.str x), some (.str g)] ∧ ltr x = true ∧ x.length ≤ i ∧ Stp b H H')
    ⟨_, none, rfl, rfl, Nat.le_refl _, st1.trans st2⟩ ?_ ?_
  · rintro i σ H3 hi ⟨x, u, rfl, xl, xn, st3⟩
    refine ⟨_, rfl, _, rfl, _, rfl, _, rfl, g, rfl, (by rw [sizeLine_eq]; omega), b, _, rfl, st3.bag, by omega, by omega, fun k H4 k0 k1 st4 => ?_⟩
    obtain ⟨cc, e3, e4⟩ := atI_of (xs := g.cps.toList) k0 (show k < ((g.cps.toList.length : Nat) : Int) by rw [Array.length_toList]; exact k1)
    refine ⟨g, _, cc, rfl, rfl, (by rw [sizeLine_eq]; omega), e3, _, _, rfl, rfl, (by show x.length + 1 ≤ sizeLine; rw [sizeLine_eq]; omega), ?_⟩
    refine ⟨_, _, rfl, ltr_append xl (ltr_get gl e4), ?_, st3.trans st4⟩
    show (x.cps ++ #[cc]).size ≤ i + 1
    have : x.cps.size ≤ i := xn
    simp
    omega
  · rintro σ H3 ⟨x, u, rfl, xl, xn, st3⟩
    exact ⟨_, rfl, q x _ xl (by omega) st3⟩
theorem d_size (h : Has K mg "_law_size" sSize) (B : Bi mg) : ∀ n, Dfn P w K mg base CX0 n "_law_size" ["_law_value_here"] (spSize K n)
  | 0 => dfn_none h (fun _ _ _ _ _ _ us hl => match us, hl with | [_], _ => rfl) fun vs H Q E z => by
    obtain ⟨_, _, _, _, _, z, _⟩ := z
    omega
  | n + 1 => by
    have D_law_size := d_size h B n
    refine dfn0 h B scSize (fun _ _ _ _ _ _ us hl => match us, hl with | [_], _ => rfl) (fun vs H Q E h => ?_) (fun f cv A out s H vs Q E c h => ?_)
    · obtain ⟨v, d, rfl, _⟩ := h
      rfl
    obtain ⟨v, d, rfl, hd, val, dn, sz, q⟩ := h
    cases d with
    | none =>
      cases hd
      refine ⟨_, (pss_cons (ps_if (pt_val (pe_callB (call_isD (T := "list")) (by rfl) c.b.isinstance (by decide +kernel) (pa_cons (pv 0) (pa_cons (pe_bltn (v := .ty "list") (by rfl) c.b.list (by decide +kernel) rfl) pa_nil)))) (pss_one (ps_ret (pe_op op_add pe_int (pe_callB (cr_sum rfl) (by rfl) c.b.sum (by decide +kernel) (pa_cons (pe_lc (own := [("_law_one", 1)]) (g := (gName 1)) (tt := tYes) rfl scSize.nd (pi_list (pv 0)) (blkOk_by (own := [("_law_one", 1)]) (N := ["_law_value_here", "_law_one"]) (sc := defScope sSize) (by decide +kernel)) (fun _ _ _ _ _ => (pg_name (i := 1) scSize.nd rfl (Or.inl rfl))) (fun _ _ _ _ _ => pts_nil) (fun _ _ _ _ _ => (pe_d D_law_size c (by omega) (by rfl) (pa_cons (pv 1) pa_nil)))) pa_nil))))) pss_nil)
    (pss_one (ps_ret (pe_ifExp (pt_cmpR op_isN (pv 0) pe_non (nomark _)) pe_int (pe_op op_add pe_int (pe_callB call_len_str (by rfl) c.b.len PySem.boot_len (pa_cons (pv 0) pa_nil))))))), ?_⟩
      refine ⟨_, rfl, _, .none, _, rfl, .non, kit_list _, _, rfl, iteF ?_⟩
      exact ⟨_, rfl, rfl, _, rfl, iteT (q _ (Same.refl _))⟩
    | str x =>
      cases hd
      refine ⟨_, (pss_cons (ps_if (pt_val (pe_callB (call_isD (T := "list")) (by rfl) c.b.isinstance (by decide +kernel) (pa_cons (pv 0) (pa_cons (pe_bltn (v := .ty "list") (by rfl) c.b.list (by decide +kernel) rfl) pa_nil)))) (pss_one (ps_ret (pe_op op_add pe_int (pe_callB (cr_sum rfl) (by rfl) c.b.sum (by decide +kernel) (pa_cons (pe_lc (own := [("_law_one", 1)]) (g := (gName 1)) (tt := tYes) rfl scSize.nd (pi_list (pv 0)) (blkOk_by (own := [("_law_one", 1)]) (N := ["_law_value_here", "_law_one"]) (sc := defScope sSize) (by decide +kernel)) (fun _ _ _ _ _ => (pg_name (i := 1) scSize.nd rfl (Or.inl rfl))) (fun _ _ _ _ _ => pts_nil) (fun _ _ _ _ _ => (pe_d D_law_size c (by omega) (by rfl) (pa_cons (pv 1) pa_nil)))) pa_nil))))) pss_nil)
    (pss_one (ps_ret (pe_ifExp (pt_cmpR op_isN (pv 0) pe_non (nomark _)) pe_int (pe_op op_add pe_int (pe_callB call_len_str (by rfl) c.b.len PySem.boot_len (pa_cons (pv 0) pa_nil))))))), ?_⟩
      refine ⟨_, rfl, _, .str x, _, rfl, .str x, kit_list _, _, rfl, iteF ?_⟩
      refine ⟨_, rfl, rfl, _, rfl, iteF ?_⟩
      have sx : szD (.str x) = 1 + x.length := by simp [szD]
      refine ⟨_, rfl, x, rfl, (by rw [sizeLine_eq]; omega), _, _, rfl, rfl, ?_⟩
      have := q _ (Same.refl _)
      rw [sx] at this
      simpa using this
    | list ds =>
      cases hd with
      | @lst a xs _ hs ha =>
      refine ⟨_, (pss_cons (ps_if (pt_val (pe_callB (call_isD (T := "list")) (by rfl) c.b.isinstance (by decide +kernel) (pa_cons (pv 0) (pa_cons (pe_bltn (v := .ty "list") (by rfl) c.b.list (by decide +kernel) rfl) pa_nil)))) (pss_one (ps_ret (pe_op op_add pe_int (pe_callB (cr_sum rfl) (by rfl) c.b.sum (by decide +kernel) (pa_cons (pe_lc (own := [("_law_one", 1)]) (g := (gName 1)) (tt := tYes) rfl scSize.nd (pi_list (pv 0)) (blkOk_by (own := [("_law_one", 1)]) (N := ["_law_value_here", "_law_one"]) (sc := defScope sSize) (by decide +kernel)) (fun _ _ _ _ _ => (pg_name (i := 1) scSize.nd rfl (Or.inl rfl))) (fun _ _ _ _ _ => pts_nil) (fun _ _ _ _ _ => (pe_d D_law_size c (by omega) (by rfl) (pa_cons (pv 1) pa_nil)))) pa_nil))))) pss_nil)
    (pss_one (ps_ret (pe_ifExp (pt_cmpR op_isN (pv 0) pe_non (nomark _)) pe_int (pe_op op_add pe_int (pe_callB call_len_str (by rfl) c.b.len PySem.boot_len (pa_cons (pv 0) pa_nil))))))), ?_⟩
      refine ⟨_, rfl, _, .list ds, _, rfl, .lst hs ha, kit_list _, _, rfl, iteT ?_⟩
      have sx : szD (.list ds) = 1 + szAll ds := by simp [szD]
      have hlen := DpAll.length ha
      have hle := len_le_szAll ds
      simp only [PyData.depth] at dn
      simp only [isVal] at val
      refine ⟨_, rfl, a, rfl, ⟨_, hs⟩, fun L hL => ?_⟩
      refine lc_list (K := K) (a := a) (xs := xs) (fun i H' => Same H H' ∧ H' L = some (.lst ((ds.take i).map fun d => V.int (szD d))))
        ⟨same_new hL _, upd_same⟩ (fun i H' _ z => z.1.seq hs) ?_ ?_
      · rintro i x H1 hx ⟨sm, hL1⟩
        obtain ⟨d, e1, e2⟩ := DpAll.get ha hx
        have hm := List.mem_of_getElem? e1
        have hi : i < ds.length := (List.getElem?_eq_some_iff.mp e1).1
        refine ⟨rfl, _, rfl, _, d, rfl, dp_mono sm d _ e2, isValAll_iff.mp val d hm, ?_, ?_, fun H2 sm2 => ?_⟩
        · have := depth_mem hm
          omega
        · have := szD_mem hm
          omega
        refine ⟨_, sm2 _ _ hL1, ?_, (fun b o e => ?_), ?_⟩
        · rw [List.length_map, List.length_take, sizeLine_eq]
          omega
        · rw [upd_ne (ne_of_none e hL)]
          exact sm2 _ _ (sm _ _ e)
        · rw [upd_same, List.take_add_one, e1, List.map_append]
          rfl
      · rintro H1 ⟨sm, hL1⟩
        rw [hlen, List.take_length] at hL1
        refine ⟨L, ds.map fun d => (szD d : Int), rfl, SqL.of ?_, _, _, rfl, rfl, ?_⟩
        · rw [hL1, List.map_map]
          rfl
        · have := q _ sm
          rw [sx, szAll_eq] at this
          have es := sum_int ds
          have e2 : (1 : Int) + (ds.map fun d => (szD d : Int)).sum = ((1 + (ds.map szD).sum : Nat) : Int) := by omega
          show Q (.int (1 + (ds.map fun d => (szD d : Int)).sum)) H1
          rw [e2]
          exact this
    | bool _ => simp [isVal] at val
    | int _ => simp [isVal] at val
    | tuple _ => simp [isVal] at val
    | dict _ => simp [isVal] at val
end
end Tx

namespace Tx
open PySem PySem.Spec PyProof.Rows L2
/-! ## Further rules: list(text); errors with a field of their own -/
theorem vals_of : ∀ (xs : List V) (us : List Value), xs.length = us.length → (∀ (j : Nat) (x : V) (u : Value), xs[j]? = some x → us[j]? = some u → RelV x u) → Vals xs us
  | [], [], _, _ => .nil
  | [], _ :: _, e, _ => by simp at e
  | _ :: _, [], e, _ => by simp at e
  | x :: xs, u :: us, e, h => .cons (h 0 x u rfl rfl) (vals_of xs us (by simpa using e) fun j y w h1 h2 => h (j + 1) y w (by simpa using h1) (by simpa using h2))
/-- the letters of a text, as texts -/
def sgn (z : Str) : List V := z.cps.toList.map fun c => V.str ⟨#[c]⟩
theorem call_listS {X : Cx} (hc : X.calm = true) : CallR X (.type "list") (fun xs H Q => ∃ z : Str, xs = [.str z] ∧ z.length ≤ sizeLine ∧ ∀ l, H l = none → Q (.ref l) (upd H l (.lst (sgn z)))) := by
  intro pins s σ H xs us Q I rel ask
  obtain ⟨z, rfl, hz, q⟩ := ask
  obtain ⟨u, rfl, r1⟩ := vals1 rel
  obtain ⟨t, rfl⟩ := r1
  refine call_list_str (I.ok.hd hc) z t (hn := hz) fun h' tk acc n keep new its => ?_
  have hl : acc.toList.length = z.cps.toList.length := by rw [Array.length_toList, Array.length_toList]; exact its.1
  refine ⟨.ref s.heap.objs.size, _, I.laid (t' := tk) (o := .lst (sgn z)) keep (Nat.le_refl _) ⟨?_, acc.toList, n, vals_of _ _ ?_ ?_, ?_⟩, rfl, q _ (I.hok.fresh (Nat.le_refl _))⟩
  · rw [sgn, List.length_map, Array.length_toList]; exact hz
  · rw [sgn, List.length_map, hl]
  · intro j x u hx hu
    obtain ⟨c, w, hc, rfl⟩ := its.2 j u (by simpa using hu)
    rw [sgn, List.getElem?_map, Array.getElem?_toList, hc] at hx
    cases hx
    exact ⟨w, rfl⟩
  · simpa using new
/-- isinstance(e, c), e the error that the suite holds, with or without fields -/
def rIsX (K : PySem.W.Frag) (D a : Addr) (cls : Value) (d : Option Addr) : List V → Hp → VK → Prop := fun xs H Q => ∃ (c : V) (cv : Value) (b : Bool), xs = [.ref a, c] ∧ cls = .ref D ∧ ClsV c cv ∧
  PySem.W.kitOne K (.ref D) cv = some b ∧ (∀ dd, d = some dd → ∃ fs, H dd = some (.xd fs)) ∧ Q (.bl b) H
def rIsXT (K : PySem.W.Frag) (D a : Addr) (cls : Value) (d : Option Addr) : List V → Hp → VK → Prop := fun xs H Q => ∃ (tp : Addr) (cs : List V) (us : List Value) (b : Bool), xs = [.ref a, .ref tp] ∧ cls = .ref D ∧ H tp = some (.tup cs) ∧
  Paired ClsV cs us ∧ PySem.W.kitAny K (.ref D) us = some b ∧ (∀ dd, d = some dd → ∃ fs, H dd = some (.xd fs)) ∧ Q (.bl b) H
section
variable {X : Cx} {a D : Addr} {oe : Obj} {cls : Value} {d : Option Addr} {pn : List (Addr × Obj)}
theorem inst_of {pins : List (Addr × Obj)} {σ : L2.St} {H : Hp} {s : Shared} (hz : Zc cls d oe) (hf : ∃ vs, oe.data = .fields vs) (I : Inv (X.suite a ((a, oe) :: pn)) pins σ H s) (ec : cls = .ref D)
    (hd : ∀ dd, d = some dd → ∃ fs, H dd = some (.xd fs)) : ∃ od, PySem.W.InstAt s.heap a oe D od := by
  obtain ⟨hg, _⟩ := I.pin (a, oe) (List.mem_append.mpr (.inl List.mem_cons_self))
  obtain ⟨vs, hv⟩ := hf
  have no : PySem.W.notCls oe = true := by unfold PySem.W.notCls; rw [hv] <;> rfl
  cases d with
  | none => exact ⟨none, ⟨hg, hz.1.trans ec, no, by rw [hz.2]; trivial⟩⟩
  | some dd =>
    obtain ⟨fs, e⟩ := hd dd rfl
    have ok : ObjOk X.prog X.w H s.heap dd (.xd fs) := I.hok dd _ e
    obtain ⟨mA, ⟨o, es, ep, ho, _⟩, _⟩ := ok
    exact ⟨some o, ⟨hg, hz.1.trans ec, no, by rw [hz.2]; exact ho⟩⟩
theorem kit_exc (C : ExcC X.K D) {od : Option Obj} : PySem.W.KitX X.K (.ref a) (.ref D) (fun h => PySem.W.InstAt h a oe D od) := by
  have hc : (PySem.W.clsIn X.K D).isSome = true := by
    obtain ⟨cd, e, _⟩ := PySem.W.any_some C.hd
    rw [e]; rfl
  exact PySem.W.kitx_exc hc C.hg C.hk C.hs C.ha C.hn C.ht C.hm
theorem call_isX (C : ExcC X.K D) (hz : Zc cls d oe) (hf : ∃ vs, oe.data = .fields vs) : CallR (X.suite a ((a, oe) :: pn)) (.builtin "isinstance") (rIsX X.K D a cls d) := by
  intro pins s σ H xs us Q I rel ask
  obtain ⟨c, cv, b, rfl, ec, kc, e, hd, q⟩ := ask
  obtain ⟨u1, u2, rfl, r1, r2⟩ := vals2 rel
  cases r1
  have e2 := kc.eq r2
  subst e2
  obtain ⟨od, J⟩ := inst_of hz hf I ec hd
  exact PySem.W.kia_one (kit_exc C) I.kIn J e (fun z => nomatch z) fun tk => ⟨.bl b, H, I.tok tk, rfl, q⟩
theorem call_isXT (C : ExcC X.K D) (hz : Zc cls d oe) (hf : ∃ vs, oe.data = .fields vs) : CallR (X.suite a ((a, oe) :: pn)) (.builtin "isinstance") (rIsXT X.K D a cls d) := by
  intro pins s σ H xs us Q I rel ask
  obtain ⟨tp, cs, ws, b, rfl, ec, hT, kc, e, hd, q⟩ := ask
  obtain ⟨u1, u2, rfl, r1, r2⟩ := vals2 rel
  cases r1
  cases (show u2 = Value.ref tp from r2)
  obtain ⟨_, its, rv, o, h1, h2, n, h3⟩ := (show ObjOk X.prog X.w H s.heap tp (.tup cs) from I.hok tp _ hT)
  have e3 := ClsV.all kc rv
  subst e3
  obtain ⟨oc, od, dt, sl⟩ := o
  simp only at h2 h3
  subst h2 h3
  obtain ⟨od, J⟩ := inst_of hz hf I ec hd
  exact PySem.W.kia_tup (kit_exc C) I.kIn J h1 e (fun z => nomatch z) fun tk => ⟨.bl b, H, I.tok tk, rfl, q⟩
end
/-- self.f = f, of a new error of the class at C -/
def spInit1 (C : Addr) (f : Str) : Sp := fun vs H Q _ => ∃ (a : Addr) (v : V), vs = [.ref a, v] ∧ H a = some (exo a C none) ∧
  ∀ dx, H dx = none → dx ≠ a → Q .non (upd (upd H dx (exd dx [(f, v)])) a (exo a C (some dx)))
/-- an error class with one field f: what the written part says of it -/
structure Err1 (P : Program) (w : World) (K : PySem.W.Frag) (mg : Str → Option Value) (base : Heap) (x f : Str) (C : Addr) : Prop where
  oex : OexC K C
  exc : ExcC K C
  gC : mg x = some (.ref C)
  noF : PySem.W.findIn K (.ref C) f = some none
  self : PySem.W.exmOne K (.ref C) (.ref C) = some true
  ini : ∃ (fI : Addr) (fd : FuncData), PySem.W.findIn K (.ref C) "__init__" = some (some (.ref fI)) ∧ PySem.W.typeIn K (.ref fI) = some (.type "function") ∧
    FnOk P w K mg base CX0 1 fI fd ["self", f] (spInit1 C f) ∧ Binds K fd ["self", f] []
theorem Err1.xf {P : Program} {w : World} {K : PySem.W.Frag} {mg : Str → Option Value} {base : Heap} {x f : Str} {C : Addr} (T : Err1 P w K mg base x f C) : XfC K C := ⟨T.exc.hg, T.exc.hk, T.exc.hs, T.exc.hd⟩
section
variable {X : Cx} {x f : Str} {C : Addr} {k : Nat} {W : WX} {e : Expr} {ta : TA} {p pos pos2 : Pos}
/-- raise x(e) -/
def tErr1 (C : Addr) (f : Str) (W : WX) (ta : TA) : TS := fun _ σ H => tMkO C (spInit1 C f) [] ta σ H fun cls d H' => W cls d σ H'
theorem ps_err1 (T : Err1 X.prog X.w X.K X.mg X.base x f C) (calm : X.calm = true) (room : Room (k + 2) X.A) (tk : Takes X W) (args : PA X [e] ta) (gl : Gl X x)
    (nd : (x == ("__debug__" : Str)) = false := by decide) (plain : starEach (e :: []) X.env = (false, eval e X.env) :: starEach [] X.env := by rfl) (bare : (backTo pos (starEach [] X.env)).any (·.1) = false := by rfl) :
    PS X (.Raise (some (.Call (.Name x p) [e] [] pos)) none pos2) (tErr1 C f W ta) := by
  obtain ⟨fI, fd, iC, tI, F, bd⟩ := T.ini
  exact ps_raise calm tk (pmk_oex T.oex iC tI F (room.mono (by omega)) bd .nil (fun _ _ _ _ _ _ _ h => False.elim h) gl T.gC args nd plain bare)
/-- what is left to show once the field is known -/
theorem err1 {v : V} {H : Hp} {Q : XK} (h : ∀ d, H d = none → Q (.ref C) (some d) (upd H d (.xd [(f, v)]))) : ([v] : List V).length ≤ 1000 ∧ ∀ a, H a = none → spInit1 C f (.ref a :: ([v] ++ [])) (upd H a (exo a C none))
    (fun u H2 => u = .non ∧ ∃ (d : Addr) (fs : List (Str × V)), H2 a = some (exo a C (some d)) ∧ H2 d = some (exd d fs) ∧ H d = none ∧ Q (.ref C) (some d) (upd (del H2 a) d (.xd fs))) (fun _ _ _ => False) := by
  refine ⟨(by show 1 ≤ 1000; decide), fun a ha => ⟨a, v, rfl, upd_same, fun dx hx ne => ⟨rfl, dx, [(f, v)], upd_same, ?_, ?_, ?_⟩⟩⟩
  · rw [upd_ne ne, upd_same]
  · rw [upd_ne ne] at hx
    exact hx
  · rw [upd_ne ne] at hx
    have e : upd (del (upd (upd (upd H a (exo a C none)) dx (exd dx [(f, v)])) a (exo a C (some dx))) a) dx (.xd [(f, v)]) = upd H dx (.xd [(f, v)]) := by
      funext b
      by_cases h1 : b = dx
      · rw [h1, upd_same, upd_same]
      · rw [upd_ne h1, upd_ne h1]
        by_cases h2 : b = a
        · rw [h2, del_same, ha]
        · rw [del_ne h2, upd_ne h2, upd_ne h1, upd_ne h2]
    rw [e]
    exact h dx hx
/-- f(e, ..), f a def of the module that may raise, where W wishes of what is raised -/
theorem pe_dS {j : Nat} {ps : List Str} {sp : Sp} {E : L2.St → XK} {es : List Expr} {t : TA} (D : Dfn X.prog X.w X.K X.mg X.base (L2.CX X.prog X.w) j x ps sp) (c : Ct X.mg X.A k) (h : j ≤ k) (gl : Gl X x)
    (out : ∀ σ, PassesAt (L2.CX X.prog X.w) X σ (E σ)) (args : PA X (e :: es) t) (nd : (x == ("__debug__" : Str)) = false := by decide)
    (plain : starEach (e :: es) X.env = (false, eval e X.env) :: starEach es X.env := by rfl) (bare : (backTo pos (starEach es X.env)).any (·.1) = false := by rfl) :
    PE X (.Call (.Name x p) (e :: es) [] pos) (tCallS sp E t) := by
  obtain ⟨f, fd, F, m, kp, bd⟩ := D
  constructor
  intro pins s σ H Q I ask
  refine wpAny_Call_Name_kw (ld_glob I gl m ?_ nd)
  refine PySem.W.callWith_K (h₀ := X.base) I.ok.mod.kin kp (thn (args.run pos pins s σ H _ I ask) ?_) plain bare
  rintro us s1 ⟨vs, H1, J, rel, q⟩
  refine ⟨J.kIn, ?_⟩
  have full : (us ++ []).length = ps.length := by rw [List.append_nil, ← rel.length]; exact F.len _ _ _ _ q
  have b2 := bd s1 us J.kIn full
  rw [List.append_nil] at b2
  refine wpAny_call (codeAny_mono (F.run X.A X.stack s1 H1 ⟨us, []⟩ us vs Q (E σ) (c.r.mono h) c.g J.env0 b2 rel q) ?_)
  intro r s2 got
  match r, got with
  | .ok (.ret u), got => exact J.after got
  | .ok .next, got => exact False.elim got
  | .ok .brk, got => exact False.elim got
  | .ok .cont, got => exact False.elim got
  | .error er, got => exact out σ pins H1 s1 er s2 J got
end
/-- from what the top has written to an error class with a field -/
theorem err1_of {P : Program} {w : World} {K : PySem.W.Frag} {mg : Str → Option Value} {base h : Heap} {x f : Str} {C fI N : Addr} {fd : FuncData} {nm q : Str} {bs bm sub : List Value} {sn : List Str} {ab : Bool} {col : Option Bool} {dd : Option Addr} {m0 m1 m2 m3 m5 : Option Value}
    (X : K.In h) (G : h.Ns mainGlobals mg) (aC : PySem.W.nsIn K mainGlobals x = some (some (.ref C)))
    (xL : K.lookup C = some (excClassObj nm q C N bs bm true sn sub ab col dd m0 m1 m2 m3 m5 "ValueError.__new__")) (vb : PySem.HandSPX.refsVE bm = true)
    (sa : PySem.W.findIn K (.ref C) "__setattr__" = some (some (.builtin "object.__setattr__"))) (ga : PySem.W.findIn K (.ref C) "__getattribute__" = some (some (.builtin "BaseException.__getattribute__")))
    (gg : PySem.W.findIn K (.ref C) "__getattr__" = some none) (nf : PySem.W.findIn K (.ref C) f = some none) (ai : PySem.W.findIn K (.ref C) "__init__" = some (some (.ref fI))) (ti : PySem.W.typeIn K (.ref fI) = some (.type "function"))
    (kC : PySem.W.keepIn K (.ref C) = true) (eC : PySem.W.subIn K (.ref C) (.type "BaseException") = some true) (tC : PySem.W.typeIn K (.ref C) = some (.type "type")) (hC : PySem.W.hasDictIn K C = true)
    (cC : PySem.W.findIn K (.ref C) "__class__" = some (some (.builtin "object.__class__"))) (gC : PySem.W.specialIn K (.builtin "object.__class__") "__get__" = some (some (.builtin "getset_descriptor.__get__")))
    (uC : PySem.W.takesIn K (.builtin "object.__class__") = some true) (oC : PySem.W.mroIn K C (.type "object") = some true) (sC : PySem.W.subIn K (.ref C) (.ref C) = some true)
    (ini : OexC K C → FnOk P w K mg base CX0 1 fI fd ["self", f] (spInit1 C f) ∧ Binds K fd ["self", f] []) : Err1 P w K mg base x f C := by
  have oex : OexC K C := ⟨⟨nm, q, N, bs, bm, sn, sub, ab, col, dd, m0, m1, m2, m3, m5, xL, vb⟩, sa, eC, tC, kC⟩
  exact ⟨oex, ⟨ga, gg, eC, hC, cC, gC, uC, oC⟩, PySem.W.mg_of X G aC, nf, PySem.W.exm_ref eC hC tC sC, fI, fd, ai, ti, (ini oex).1, (ini oex).2⟩
/-- a class of the module -/
structure Cls0 (mg : Str → Option Value) (x : Str) (C : Addr) : Prop where
  gC : mg x = some (.ref C)
theorem cls0_of {K : PySem.W.Frag} {mg : Str → Option Value} {h : Heap} {x : Str} {C : Addr} (X : K.In h) (G : h.Ns mainGlobals mg) (a : PySem.W.nsIn K mainGlobals x = some (some (.ref C))) : Cls0 mg x C := ⟨PySem.W.mg_of X G a⟩
theorem const_of {K : PySem.W.Frag} {mg : Str → Option Value} {h : Heap} {x z : Str} {t : Tok} (X : K.In h) (G : h.Ns mainGlobals mg) (a : PySem.W.nsIn K mainGlobals x = some (some (.str z t))) : ∃ t, mg x = some (.str z t) := ⟨t, PySem.W.mg_of X G a⟩
theorem pe_gcl {X : Cx} {x : Str} {C : Addr} {pos : Pos} (h : X.mg x = some (.ref C)) (gl : Gl X x) (hd : (x == ("__debug__" : Str)) = false := by decide) : PE X (.Name x pos) (tC (.ref C)) := pe_glob gl h rfl hd
theorem pe_gs {X : Cx} {x z : Str} {pos : Pos} (h : ∃ t, X.mg x = some (.str z t)) (gl : Gl X x) (hd : (x == ("__debug__" : Str)) = false := by decide) : PE X (.Name x pos) (tC (.str z)) := by
  obtain ⟨t, e⟩ := h
  exact pe_glob gl e ⟨t, rfl⟩ hd
end Tx

namespace Tx
open PySem PySem.Spec PyProof.Rows L2
/-! ## The layer of data: lists and tuples that no one changes any more are data; what may still be changed is a cell of ω -/
/-- a cell, as data -/
abbrev refD (a : Addr) : PyData := .dict [(.int ((a : Nat) : Int), .none)]
/-- the script, as data -/
abbrev scrD (a : Addr) (ns : List Int) : PyData := .dict [(.int ((a : Nat) : Int), .list (ns.map PyData.int))]
/-- a list that stands at a and stays for a while, as data -/
abbrev pubD (a : Addr) (d : PyData) : PyData := .dict [(.int ((a : Nat) : Int), .tuple [d])]
/-- a key of a dict, as data -/
def keyD : Key → PyData
  | .inl i => .int i
  | .inr x => .str x
/-- a dict that stands at a and is not changed any more, as data -/
abbrev dicD (a : Addr) (ps : List (PyData × PyData)) : PyData := .dict [(.int ((a : Nat) : Int), .dict ps)]
/-- an instance of the class at C that stands at a and is not changed any more, as data -/
abbrev objD (a C : Addr) (ps : List (PyData × PyData)) : PyData := .dict [(.int ((a : Nat) : Int), .tuple [.int ((C : Nat) : Int), .dict ps])]
mutual
inductive Rp (K : PySem.W.Frag) (J : Hp) : V → PyData → Prop
  | non : Rp K J .non .none
  | bl (b : Bool) : Rp K J (.bl b) (.bool b)
  | int (i : Int) : Rp K J (.int i) (.int i)
  | str (x : Str) : Rp K J (.str x) (.str x)
  | lst {a : Addr} {vs : List V} {ds : List PyData} : J a = some (.lst vs) → RpAll K J vs ds → Rp K J (.ref a) (.list ds)
  | tup {a : Addr} {vs : List V} {ds : List PyData} : SqT K J a vs → RpAll K J vs ds → Rp K J (.ref a) (.tuple ds)
  | ref (a : Addr) : Rp K J (.ref a) (.dict [(.int ((a : Nat) : Int), .none)])
  | scr {a : Addr} {ns : List Int} : SqL K J a (ns.map V.int) → Rp K J (.ref a) (.dict [(.int ((a : Nat) : Int), .list (ns.map PyData.int))])
  | pub {a : Addr} {d : PyData} : Rp K J (.ref a) d → Rp K J (.ref a) (.dict [(.int ((a : Nat) : Int), .tuple [d])])
  | dic {a : Addr} {kvs : List (Key × V)} {ps : List (PyData × PyData)} : J a = some (.dK kvs) → RpP K J (kvs.map fun q => (kV q.1, q.2)) ps → Rp K J (.ref a) (.dict [(.int ((a : Nat) : Int), .dict ps)])
  | obj {a C dx : Addr} {gs : List (Str × V)} {ps : List (PyData × PyData)} : J a = some (.ins C dx gs) → RpP K J (gs.map fun q => (V.str q.1, q.2)) ps → Rp K J (.ref a) (.dict [(.int ((a : Nat) : Int), .tuple [.int ((C : Nat) : Int), .dict ps])])
inductive RpAll (K : PySem.W.Frag) (J : Hp) : List V → List PyData → Prop
  | nil : RpAll K J [] []
  | cons {v : V} {vs : List V} {d : PyData} {ds : List PyData} : Rp K J v d → RpAll K J vs ds → RpAll K J (v :: vs) (d :: ds)
inductive RpP (K : PySem.W.Frag) (J : Hp) : List (V × V) → List (PyData × PyData) → Prop
  | nil : RpP K J [] []
  | cons {k v : V} {vs : List (V × V)} {e d : PyData} {ds : List (PyData × PyData)} : Rp K J k e → Rp K J v d → RpP K J vs ds → RpP K J ((k, v) :: vs) ((e, d) :: ds)
end
section
variable {K : PySem.W.Frag} {J J' : Hp}
mutual
theorem rp_mono' (e : Same J J') : ∀ {v : V} {d : PyData}, Rp K J v d → Rp K J' v d
  | _, _, .non => .non
  | _, _, .bl b => .bl b
  | _, _, .int i => .int i
  | _, _, .str x => .str x
  | _, _, .lst hs ha => .lst (e _ _ hs) (rpAll_mono' e ha)
  | _, _, .tup hs ha => .tup (Same.sqT e hs) (rpAll_mono' e ha)
  | _, _, .ref a => .ref a
  | _, _, .scr hs => .scr (e.seq hs)
  | _, _, .pub h => .pub (rp_mono' e h)
  | _, _, .dic hs ha => .dic (e _ _ hs) (rpP_mono' e ha)
  | _, _, .obj hs ha => .obj (e _ _ hs) (rpP_mono' e ha)
theorem rpAll_mono' (e : Same J J') : ∀ {vs : List V} {ds : List PyData}, RpAll K J vs ds → RpAll K J' vs ds
  | _, _, .nil => .nil
  | _, _, .cons h1 h2 => .cons (rp_mono' e h1) (rpAll_mono' e h2)
theorem rpP_mono' (e : Same J J') : ∀ {vs : List (V × V)} {ds : List (PyData × PyData)}, RpP K J vs ds → RpP K J' vs ds
  | _, _, .nil => .nil
  | _, _, .cons h1 h2 h3 => .cons (rp_mono' e h1) (rp_mono' e h2) (rpP_mono' e h3)
end
theorem rp_mono (e : Same J J') (d : PyData) (v : V) (h : Rp K J v d) : Rp K J' v d := rp_mono' e h
theorem rpAll_mono (e : Same J J') (ds : List PyData) (vs : List V) (h : RpAll K J vs ds) : RpAll K J' vs ds := rpAll_mono' e h
mutual
theorem rp_dp : ∀ (d : PyData) (v : V), d.canLay0 = true → Rp K J v d → Dp K J v d
  | .none, _, _, h => by cases h; exact .non
  | .bool b, _, _, h => by cases h; exact .bl b
  | .int i, _, _, h => by cases h; exact .int i
  | .str x, _, _, h => by cases h; exact .str x
  | .list ds, _, z, h => by
    cases h with
    | lst hs ha => exact .lst (SqL.of hs) (rpAll_dp ds _ (by simpa only [PyData.canLay0] using z) ha)
  | .tuple ds, _, z, h => by
    cases h with
    | tup hs ha => exact .tup hs (rpAll_dp ds _ (by simpa only [PyData.canLay0] using z) ha)
  | .dict _, _, z, _ => by simp [PyData.canLay0] at z
theorem rpAll_dp : ∀ (ds : List PyData) (vs : List V), PyData.canLayAll0 ds = true → RpAll K J vs ds → DpAll K J vs ds
  | [], _, _, h => by cases h; exact .nil
  | d :: ds, _, z, h => by
    simp only [PyData.canLayAll0, Bool.and_eq_true] at z
    cases h with
    | cons h1 h2 => exact .cons (rp_dp d _ z.1 h1) (rpAll_dp ds _ z.2 h2)
end
theorem RpAll.length : ∀ {ds : List PyData} {vs : List V}, RpAll K J vs ds → vs.length = ds.length
  | _, _, .nil => rfl
  | _, _, .cons _ t => by rw [List.length_cons, List.length_cons, RpAll.length t]
theorem RpAll.get : ∀ {ds : List PyData} {vs : List V} {i : Nat} {v : V}, RpAll K J vs ds → vs[i]? = some v → ∃ d, ds[i]? = some d ∧ Rp K J v d
  | _, _, _, _, .nil, e => by simp at e
  | _, _, 0, _, .cons h _, e => by simp at e; subst e; exact ⟨_, rfl, h⟩
  | _, _, i + 1, v, .cons _ t, e => by
    obtain ⟨d, h1, h2⟩ := RpAll.get (i := i) (v := v) t (by simpa using e)
    exact ⟨d, by simpa using h1, h2⟩
theorem RpAll.getD : ∀ {ds : List PyData} {vs : List V} {i : Nat} {d : PyData}, RpAll K J vs ds → ds[i]? = some d → ∃ v, vs[i]? = some v ∧ Rp K J v d
  | _, _, _, _, .nil, e => by simp at e
  | _, _, 0, _, .cons h _, e => by simp at e; subst e; exact ⟨_, rfl, h⟩
  | _, _, i + 1, d, .cons _ t, e => by
    obtain ⟨v, h1, h2⟩ := RpAll.getD (i := i) (d := d) t (by simpa using e)
    exact ⟨v, by simpa using h1, h2⟩
theorem RpAll.append : ∀ {ds es : List PyData} {vs ws : List V}, RpAll K J vs ds → RpAll K J ws es → RpAll K J (vs ++ ws) (ds ++ es)
  | _, _, _, _, .nil, h => h
  | _, _, _, _, .cons h t, g => .cons h (RpAll.append t g)
theorem RpAll.one {v : V} {d : PyData} (h : Rp K J v d) : RpAll K J [v] [d] := .cons h .nil
theorem RpAll.take : ∀ {ds : List PyData} {vs : List V} (n : Nat), RpAll K J vs ds → RpAll K J (vs.take n) (ds.take n)
  | _, _, 0, _ => by simpa using RpAll.nil
  | _, _, _ + 1, .nil => .nil
  | _, _, n + 1, .cons h t => .cons h (RpAll.take n t)
theorem RpAll.drop : ∀ {ds : List PyData} {vs : List V} (n : Nat), RpAll K J vs ds → RpAll K J (vs.drop n) (ds.drop n)
  | _, _, 0, h => by simpa using h
  | _, _, _ + 1, .nil => .nil
  | _, _, n + 1, .cons _ t => RpAll.drop n t
theorem RpAll.set : ∀ {ds : List PyData} {vs : List V} {v : V} {d : PyData} (i : Nat), RpAll K J vs ds → Rp K J v d → RpAll K J (vs.set i v) (ds.set i d)
  | _, _, _, _, _, .nil, _ => .nil
  | _, _, _, _, 0, .cons _ t, h => .cons h t
  | _, _, _, _, i + 1, .cons g t, h => .cons g (RpAll.set i t h)
theorem RpAll.rep {vs : List V} {ds : List PyData} (h : RpAll K J vs ds) : ∀ n : Nat, RpAll K J (List.replicate n vs).flatten (List.replicate n ds).flatten
  | 0 => .nil
  | n + 1 => by
    rw [List.replicate_succ, List.replicate_succ, List.flatten_cons, List.flatten_cons]
    exact RpAll.append h (RpAll.rep h n)
theorem rpAll_sgn (z : Str) : RpAll K J (sgn z) (z.cps.toList.map fun c => PyData.str ⟨#[c]⟩) := by
  unfold sgn
  induction z.cps.toList with
  | nil => exact .nil
  | cons c l ih => exact .cons (.str _) ih
end
/-- what may still be changed -/
inductive MO where
  | lst (ds : List PyData)
  | bag
  | ins (C dx : Addr) (fs : List (Str × PyData))
  | xd (fs : List (Str × PyData))
  /-- a list whose lists, at any depth, stand in N and nowhere else -/
  | tmp (N : Hp) (d : PyData)
  /-- an instance whose only field f holds a list of its own, at p -/
  | ent (C dx p : Addr) (f : Str) (ds : List PyData)
  /-- a dict, its keys ints and texts, or tuples of these -/
  | dk (kvs : List (Key × PyData))
  | dt (kvs : List (List Key × PyData))
abbrev Wd := Addr → Option MO
def updW (ω : Wd) (a : Addr) (m : MO) : Wd := fun b => if b = a then some m else ω b
def delW (ω : Wd) (a : Addr) : Wd := fun b => if b = a then none else ω b
theorem updW_same {ω : Wd} {a : Addr} {m : MO} : updW ω a m a = some m := if_pos rfl
theorem updW_ne {ω : Wd} {a b : Addr} {m : MO} (h : b ≠ a) : updW ω a m b = ω b := if_neg h
theorem delW_same {ω : Wd} {a : Addr} : delW ω a a = none := if_pos rfl
theorem delW_ne {ω : Wd} {a b : Addr} (h : b ≠ a) : delW ω a b = ω b := if_neg h
theorem updW_updW {ω : Wd} {a : Addr} {m n : MO} : updW (updW ω a m) a n = updW ω a n := by
  funext b; unfold updW; split <;> rfl
theorem delW_updW {ω : Wd} {a : Addr} {m : MO} (h : ω a = none) : delW (updW ω a m) a = ω := by
  funext b; unfold delW updW; split
  · rename_i e; rw [e, h]
  · rfl
theorem delW_some {ω : Wd} {a b : Addr} {m : MO} (h : delW ω a b = some m) : ω b = some m ∧ b ≠ a := by
  unfold delW at h
  split at h
  · cases h
  · rename_i n; exact ⟨h, n⟩
/-- what belongs to a cell alone, beside its own address -/
def MO.priv : MO → Addr → Prop
  | .tmp N _, b => N b ≠ none
  | .ent _ _ p _ _, b => b = p
  | _, _ => False
/-- nothing does -/
def MO.bare : MO → Bool
  | .tmp _ _ => false
  | .ent _ _ _ _ _ => false
  | _ => true
theorem MO.bare_priv {m : MO} {b : Addr} (h : m.bare = true) : ¬ m.priv b := by
  cases m <;> first | exact id | cases h
/-- no cell, nor what belongs to one -/
def Fr (ω : Wd) (a : Addr) : Prop := ω a = none ∧ ∀ c m, ω c = some m → ¬ m.priv a
/-- fields -/
def RpF (K : PySem.W.Frag) (J : Hp) : List (Str × V) → List (Str × PyData) → Prop := Paired fun p q => p.1 = q.1 ∧ Rp K J p.2 q.2
/-- what a dict holds -/
def RpK {κ : Type} (K : PySem.W.Frag) (J : Hp) : List (κ × V) → List (κ × PyData) → Prop := Paired fun p q => p.1 = q.1 ∧ Rp K J p.2 q.2
def Cell (K : PySem.W.Frag) (J H : Hp) (a : Addr) : MO → Prop
  | .lst ds => ∃ vs, H a = some (.lst vs) ∧ RpAll K J vs ds
  | .bag => Bag H a
  | .ins C dx fs => ∃ gs, H a = some (.ins C dx gs) ∧ RpF K J gs fs
  | .xd fs => ∃ gs, H a = some (.xd gs) ∧ RpF K J gs fs
  | .tmp N d => Same N H ∧ Rp K N (.ref a) d ∧ N a ≠ none
  | .ent C dx p f ds => H a = some (.ins C dx [(f, .ref p)]) ∧ ∃ vs, H p = some (.lst vs) ∧ RpAll K J vs ds
  | .dk kvs => ∃ ws, H a = some (.dK ws) ∧ RpK K J ws kvs
  | .dt kvs => ∃ ws, H a = some (.dT ws) ∧ RpK K J ws kvs
/-- J: what stays as it is; ω: what may be changed -/
structure Rw (K : PySem.W.Frag) (J H : Hp) (ω : Wd) : Prop where
  jh : Same J H
  out : ∀ a m, ω a = some m → J a = none
  cell : ∀ a m, ω a = some m → Cell K J H a m
  tmp : ∀ a m, ω a = some m → ∀ b, m.priv b → J b = none ∧ (b ≠ a → ω b = none) ∧ ∀ c m', c ≠ a → ω c = some m' → ¬ m'.priv b
structure Grow (J H : Hp) (ω : Wd) (J' H' : Hp) (ω' : Wd) : Prop where
  jj : Same J J'
  dom : ∀ a, H a ≠ none → H' a ≠ none
  keep : ∀ a o, H a = some o → Fr ω a → H' a = some o
  frj : ∀ a, H a ≠ none → Fr ω a → J a = none → J' a = none
  frw : ∀ a, H a ≠ none → Fr ω a → Fr ω' a
section
variable {K : PySem.W.Frag} {J J1 J2 H H1 H2 : Hp} {ω ω1 ω2 : Wd} {a p : Addr} {m n : MO} {o : HO} {vs : List V} {ds : List PyData}
theorem RpF.mono (e : Same J J1) {gs : List (Str × V)} {fs : List (Str × PyData)} (h : RpF K J gs fs) : RpF K J1 gs fs := Paired.mapP h fun _ q z => ⟨z.1, rp_mono e q.2 _ z.2⟩
theorem RpK.mono {κ : Type} (e : Same J J1) {gs : List (κ × V)} {fs : List (κ × PyData)} (h : RpK K J gs fs) : RpK K J1 gs fs := Paired.mapP h fun _ q z => ⟨z.1, rp_mono e q.2 _ z.2⟩
/-- what a cell looks at -/
def Looks (a : Addr) (m : MO) (b : Addr) : Prop := b = a ∨ m.priv b
theorem same_there {N : Hp} {b : Addr} (s : Same N H) (n : N b ≠ none) : H b ≠ none := by
  cases q : N b with
  | none => exact absurd q n
  | some o => rw [s _ _ q]; simp
theorem Cell.looks {b : Addr} (h : Cell K J H a m) (l : Looks a m b) : H b ≠ none := by
  cases m with
  | lst ds => obtain ⟨vs, e, _⟩ := h; rcases l with rfl | l; rw [e]; simp; exact False.elim l
  | bag => obtain ⟨c, n, e⟩ := h; rcases l with rfl | l; rw [e]; simp; exact False.elim l
  | ins C dx fs => obtain ⟨vs, e, _⟩ := h; rcases l with rfl | l; rw [e]; simp; exact False.elim l
  | xd fs => obtain ⟨vs, e, _⟩ := h; rcases l with rfl | l; rw [e]; simp; exact False.elim l
  | tmp N d =>
    obtain ⟨s, _, n⟩ := h
    rcases l with rfl | l
    · exact same_there s n
    · exact same_there s l
  | ent C dx p f ds =>
    obtain ⟨e, vs, e2, _⟩ := h
    rcases l with rfl | l
    · rw [e]; simp
    · rw [show b = p from l, e2]; simp
  | dk kvs => obtain ⟨vs, e, _⟩ := h; rcases l with rfl | l; rw [e]; simp; exact False.elim l
  | dt kvs => obtain ⟨vs, e, _⟩ := h; rcases l with rfl | l; rw [e]; simp; exact False.elim l
theorem Cell.mono (h : Cell K J H a m) (e : Same J J1) (k : ∀ b o, Looks a m b → H b = some o → H1 b = some o) : Cell K J1 H1 a m := by
  cases m with
  | lst ds => obtain ⟨vs, z, r⟩ := h; exact ⟨vs, k _ _ (.inl rfl) z, rpAll_mono e _ _ r⟩
  | bag => obtain ⟨c, n, z⟩ := h; exact ⟨c, n, k _ _ (.inl rfl) z⟩
  | ins C dx fs => obtain ⟨vs, z, r⟩ := h; exact ⟨vs, k _ _ (.inl rfl) z, r.mono e⟩
  | xd fs => obtain ⟨vs, z, r⟩ := h; exact ⟨vs, k _ _ (.inl rfl) z, r.mono e⟩
  | tmp N d => obtain ⟨s, r, nn⟩ := h; exact ⟨fun b u q => k b u (.inr (show N b ≠ none by rw [q]; simp)) (s b u q), r, nn⟩
  | ent C dx p f ds => obtain ⟨z, vs, z2, r⟩ := h; exact ⟨k _ _ (.inl rfl) z, vs, k _ _ (.inr rfl) z2, rpAll_mono e _ _ r⟩
  | dk kvs => obtain ⟨vs, z, r⟩ := h; exact ⟨vs, k _ _ (.inl rfl) z, r.mono e⟩
  | dt kvs => obtain ⟨vs, z, r⟩ := h; exact ⟨vs, k _ _ (.inl rfl) z, r.mono e⟩
theorem Rw.there (w : Rw K J H ω) (h : ω a = some m) : H a ≠ none := (w.cell a m h).looks (.inl rfl)
theorem Rw.looks {b : Addr} (w : Rw K J H ω) (h : ω a = some m) (l : Looks a m b) : H b ≠ none := (w.cell a m h).looks l
theorem Rw.free (w : Rw K J H ω) (h : H p = none) : Fr ω p := by
  constructor
  · cases q : ω p with
    | none => rfl
    | some m => exact absurd h (w.there q)
  · exact fun c m e pr => w.looks e (.inr pr) h
theorem Grow.refl : Grow J H ω J H ω := ⟨Same.refl _, fun _ h => h, fun _ _ h _ => h, fun _ _ _ h => h, fun _ _ h => h⟩
theorem Grow.trans (g : Grow J H ω J1 H1 ω1) (k : Grow J1 H1 ω1 J2 H2 ω2) : Grow J H ω J2 H2 ω2 :=
  ⟨g.jj.trans k.jj, fun a h => k.dom a (g.dom a h), fun a o h z => k.keep a o (g.keep a o h z) (g.frw a (by rw [h]; simp) z),
    fun a h z j => k.frj a (g.dom a h) (g.frw a h z) (g.frj a h z j), fun a h z => k.frw a (g.dom a h) (g.frw a h z)⟩
theorem ne_new (h : H a ≠ none) (hp : H p = none) : a ≠ p := fun e => h (by rw [e]; exact hp)
/-- the next state: J has new things, each cell is as it was or is told anew -/
theorem Rw.step (w : Rw K J H ω) (jj : Same J J1) (jh : Same J1 H1) (fj : ∀ b, H b ≠ none → J b = none → J1 b = none)
    (h : ∀ a m, ω1 a = some m → (ω a = some m ∧ ∀ b o, Looks a m b → H b = some o → H1 b = some o) ∨
      (J1 a = none ∧ Cell K J1 H1 a m ∧ (∀ b, m.priv b → J1 b = none ∧ (b ≠ a → ω1 b = none)) ∧ ∀ c m', c ≠ a → ω1 c = some m' → ¬ m'.priv a ∧ ∀ b, m.priv b → ¬ m'.priv b)) : Rw K J1 H1 ω1 := by
  refine ⟨jh, fun a m e => ?_, fun a m e => ?_, fun a m e b pb => ?_⟩
  · rcases h a m e with z | z
    · exact fj a (w.there z.1) (w.out a m z.1)
    · exact z.1
  · rcases h a m e with z | z
    · exact (w.cell a m z.1).mono jj z.2
    · exact z.2.1
  · rcases h a m e with z | z
    · obtain ⟨t1, t2, t3⟩ := w.tmp a m z.1 b pb
      refine ⟨fj b (w.looks z.1 (.inr pb)) t1, fun ne => ?_, fun c m' nc ec => ?_⟩
      · cases q : ω1 b with
        | none => rfl
        | some m' =>
          rcases h b m' q with y | y
          · rw [t2 ne] at y; cases y.1
          · exact absurd pb (y.2.2.2 a m (Ne.symm ne) e).1
      · rcases h c m' ec with y | y
        · exact t3 c m' nc y.1
        · exact fun pc => (y.2.2.2 a m (Ne.symm nc) e).2 b pc pb
    · exact ⟨(z.2.2.1 b pb).1, (z.2.2.1 b pb).2, fun c m' nc ec => (z.2.2.2 c m' nc ec).2 b pb⟩
/-- a new thing that stays -/
theorem Grow.frz (w : Rw K J H ω) (hp : H p = none) (o : HO) : Grow J H ω (upd J p o) (upd H p o) ω := by
  have hj : J p = none := w.jh.free hp
  refine ⟨same_new hj o, fun a h => ?_, fun a u h _ => ?_, fun a h _ j => ?_, fun _ _ h => h⟩
  · rw [upd_ne (ne_new h hp)]; exact h
  · rw [upd_ne (ne_of_none h hp)]; exact h
  · rw [upd_ne (ne_new h hp)]; exact j
theorem Rw.frz (w : Rw K J H ω) (hp : H p = none) (o : HO) : Rw K (upd J p o) (upd H p o) ω := by
  have hj : J p = none := w.jh.free hp
  refine w.step (same_new hj o) (fun a u e => ?_) (fun b h j => by rw [upd_ne (ne_new h hp)]; exact j) fun a m e => .inl ⟨e, fun b u _ z => by rw [upd_ne (ne_of_none z hp)]; exact z⟩
  by_cases z : a = p
  · rw [z, upd_same] at e ⊢; exact e
  · rw [upd_ne z] at e ⊢; exact w.jh a u e
/-- a new thing that no one looks at -/
theorem Grow.junk (hp : H p = none) (o : HO) : Grow J H ω J (upd H p o) ω :=
  ⟨Same.refl _, fun a h => by rw [upd_ne (ne_new h hp)]; exact h, fun a u h _ => by rw [upd_ne (ne_of_none h hp)]; exact h, fun _ _ _ j => j, fun _ _ h => h⟩
theorem Rw.junk (w : Rw K J H ω) (hp : H p = none) (o : HO) : Rw K J (upd H p o) ω :=
  w.step (Same.refl _) (w.jh.trans (same_new hp o)) (fun _ _ j => j) fun a m e => .inl ⟨e, fun b u _ z => by rw [upd_ne (ne_of_none z hp)]; exact z⟩
theorem fr_updP {b : Addr} (h : Fr ω b) (ne : b ≠ p) (np : ¬ m.priv b) : Fr (updW ω p m) b := by
  refine ⟨by rw [updW_ne ne]; exact h.1, fun c m' e => ?_⟩
  by_cases z : c = p
  · rw [z, updW_same] at e; cases e; exact np
  · rw [updW_ne z] at e; exact h.2 c m' e
theorem fr_upd {b : Addr} (ht : m.bare = true) (h : Fr ω b) (ne : b ≠ p) : Fr (updW ω p m) b := fr_updP h ne (MO.bare_priv ht)
/-- a new cell -/
theorem Grow.own (ht : m.bare = true) (hp : H p = none) (o : HO) : Grow J H ω J (upd H p o) (updW ω p m) :=
  ⟨Same.refl _, fun a h => by rw [upd_ne (ne_new h hp)]; exact h, fun a u h _ => by rw [upd_ne (ne_of_none h hp)]; exact h, fun _ _ _ j => j, fun a h z => fr_upd ht z (ne_new h hp)⟩
theorem Rw.own (w : Rw K J H ω) (ht : m.bare = true) (hp : H p = none) (c : Cell K J (upd H p o) p m) : Rw K J (upd H p o) (updW ω p m) := by
  have fp := w.free hp
  refine w.step (Same.refl _) (w.jh.trans (same_new hp o)) (fun _ _ j => j) fun a n e => ?_
  by_cases z : a = p
  · subst z
    rw [updW_same] at e
    cases e
    refine .inr ⟨w.jh.free hp, c, fun b pb => absurd pb (MO.bare_priv ht), fun c m' nc e => ?_⟩
    rw [updW_ne nc] at e
    exact ⟨fp.2 c m' e, fun b pb => absurd pb (MO.bare_priv ht)⟩
  · rw [updW_ne z] at e
    exact .inl ⟨e, fun b u _ y => by rw [upd_ne (ne_of_none y hp)]; exact y⟩
theorem fr_ne0 {b : Addr} (h : ω a = some m) (z : Fr ω b) : b ≠ a := fun e => by have := z.1; rw [e, h] at this; cases this
/-- a cell is changed -/
theorem Grow.set (h : ω a = some m) (ht : n.bare = true) (o : HO) : Grow J H ω J (upd H a o) (updW ω a n) := by
  refine ⟨Same.refl _, fun b hb => ?_, fun b u hb z => by rw [upd_ne (fr_ne0 h z)]; exact hb, fun _ _ _ j => j, fun b _ z => fr_upd ht z (fr_ne0 h z)⟩
  by_cases z : b = a
  · rw [z, upd_same]; simp
  · rw [upd_ne z]; exact hb
/-- a cell is in no other -/
theorem Rw.apart (w : Rw K J H ω) (h : ω a = some m) {c : Addr} {m' : MO} (nc : c ≠ a) (e : ω c = some m') : ¬ m'.priv a := fun pa => by
  obtain ⟨_, t2, _⟩ := w.tmp c m' e a pa
  rw [t2 (Ne.symm nc)] at h
  cases h
theorem Rw.set (w : Rw K J H ω) (h : ω a = some m) (ht : n.bare = true) (c : Cell K J (upd H a o) a n) : Rw K J (upd H a o) (updW ω a n) := by
  refine w.step (Same.refl _) (fun b u e => ?_) (fun _ _ j => j) fun b k e => ?_
  · rw [upd_ne fun z => by rw [z, w.out a m h] at e; cases e]; exact w.jh b u e
  · by_cases z : b = a
    · subst z
      rw [updW_same] at e
      cases e
      refine .inr ⟨w.out _ m h, c, fun b pb => absurd pb (MO.bare_priv ht), fun c m' nc e => ?_⟩
      rw [updW_ne nc] at e
      exact ⟨w.apart h nc e, fun b pb => absurd pb (MO.bare_priv ht)⟩
    · rw [updW_ne z] at e
      refine .inl ⟨e, fun b' u l y => ?_⟩
      rw [upd_ne]
      · exact y
      · rintro rfl
        rcases l with rfl | pb
        · exact z rfl
        · exact w.apart h z e pb
theorem fr_del {b : Addr} (h : Fr ω b) : Fr (delW ω a) b :=
  ⟨by unfold delW; split; rfl; exact h.1, fun c m e => h.2 c m (delW_some e).1⟩
/-- a list of one's own is not changed any more -/
theorem Grow.fix (w : Rw K J H ω) (h : ω a = some (.lst ds)) (e : H a = some (.lst vs)) : Grow J H ω (upd J a (.lst vs)) H (delW ω a) := by
  refine ⟨same_new (w.out a _ h) _, fun _ z => z, fun _ _ z _ => z, fun b _ z j => by rw [upd_ne (fr_ne0 h z)]; exact j, fun b _ z => fr_del z⟩
theorem Rw.fix (w : Rw K J H ω) (h : ω a = some (.lst ds)) (e : H a = some (.lst vs)) : Rw K (upd J a (.lst vs)) H (delW ω a) := by
  have hj := w.out a _ h
  refine ⟨fun b u z => ?_, fun b k z => ?_, fun b k z => ?_, fun b m' z b' nb => ?_⟩
  · by_cases y : b = a
    · rw [y, upd_same] at z; rw [y, ← z]; exact e
    · rw [upd_ne y] at z; exact w.jh b u z
  · obtain ⟨z, y⟩ := delW_some z
    rw [upd_ne y]; exact w.out b k z
  · obtain ⟨z, y⟩ := delW_some z
    exact (w.cell b k z).mono (same_new hj _) fun _ _ _ q => q
  · obtain ⟨z2, y⟩ := delW_some z
    obtain ⟨t1, t2, t3⟩ := w.tmp b m' z2 b' nb
    refine ⟨?_, fun ne => by unfold delW; split; rfl; exact t2 ne, fun c N' nc ec => t3 c N' nc (delW_some ec).1⟩
    rw [upd_ne]
    · exact t1
    · rintro rfl
      exact w.apart h y z2 nb
/-- cells that no one looks at any more -/
theorem Grow.drop : Grow J H ω J H (delW ω a) :=
  ⟨Same.refl _, fun _ z => z, fun _ _ z _ => z, fun _ _ _ j => j, fun b _ z => fr_del z⟩
theorem Rw.drop (w : Rw K J H ω) : Rw K J H (delW ω a) :=
  w.step (Same.refl _) w.jh (fun _ _ j => j) fun b m e => .inl ⟨(delW_some e).1, fun _ _ _ z => z⟩
/-- a new cell with new things of its own -/
theorem grow_tmp (g : Grow J H ω J H1 ω) (nn : ∀ b, m.priv b → H b = none) (na : H a = none) : Grow J H ω J H1 (updW ω a m) :=
  ⟨g.jj, g.dom, g.keep, g.frj, fun b h z => fr_updP z (ne_new h na) fun pb => h (nn b pb)⟩
theorem rw_new (w : Rw K J H ω) (w1 : Rw K J H1 ω) (nn : ∀ b, m.priv b → H b = none) (na : H a = none) (c : Cell K J H1 a m) : Rw K J H1 (updW ω a m) := by
  refine w1.step (Same.refl _) w1.jh (fun _ _ j => j) fun b k e => ?_
  by_cases y : b = a
  · subst y
    rw [updW_same] at e
    cases e
    refine .inr ⟨w.jh.free na, c, fun b' pb => ⟨w.jh.free (nn b' pb), fun ne => by rw [updW_ne ne]; exact (w.free (nn b' pb)).1⟩, fun c' m' nc e => ?_⟩
    rw [updW_ne nc] at e
    exact ⟨(w.free na).2 c' m' e, fun b' pb => (w.free (nn b' pb)).2 c' m' e⟩
  · rw [updW_ne y] at e
    exact .inl ⟨e, fun _ _ _ z => z⟩
theorem rw_tmp {N : Hp} {d : PyData} (w : Rw K J H ω) (w1 : Rw K J H1 ω) (nn : ∀ b, N b ≠ none → H b = none) (s : Same N H1) (r : Rp K N (.ref a) d) (na : N a ≠ none) : Rw K J H1 (updW ω a (.tmp N d)) :=
  rw_new w w1 nn (nn a na) ⟨s, r, na⟩
/-- J and a further piece -/
def join (J N : Hp) : Hp := fun a => match N a with
  | some o => some o
  | none => J a
theorem join_none {b : Addr} {N : Hp} (h : N b = none) : join J N b = J b := by unfold join; rw [h]
theorem join_some {b : Addr} {N : Hp} {o : HO} (h : N b = some o) : join J N b = some o := by unfold join; rw [h]
theorem same_join {N : Hp} (h : ∀ b, N b ≠ none → J b = none) : Same J (join J N) := fun b o e => by
  rw [join_none]
  · exact e
  · cases q : N b with
    | none => rfl
    | some u => rw [h b (by rw [q]; simp)] at e; cases e
theorem same_joinN {N : Hp} : Same N (join J N) := fun b o e => join_some e
theorem priv_none {N : Hp} {d : PyData} {b : Addr} (h : ¬ (MO.tmp N d).priv b) : N b = none := Classical.byContradiction h
/-- such a cell becomes data -/
theorem grow_thaw {N : Hp} {d : PyData} (w : Rw K J H ω) (h : ω a = some (.tmp N d)) : Grow J H ω (join J N) H (delW ω a) := by
  refine ⟨same_join fun b nb => (w.tmp a _ h b nb).1, fun _ z => z, fun _ _ z _ => z, fun b _ z j => ?_, fun b _ z => fr_del z⟩
  rw [join_none (priv_none (z.2 a _ h))]; exact j
theorem rw_thaw {N : Hp} {d : PyData} (w : Rw K J H ω) (h : ω a = some (.tmp N d)) : Rw K (join J N) H (delW ω a) := by
  have sj : Same J (join J N) := same_join fun b nb => (w.tmp a _ h b nb).1
  obtain ⟨sN, rN, nN⟩ := w.cell a _ h
  refine ⟨fun b u e => ?_, fun b m e => ?_, fun b m e => ?_, fun b m' e b' nb => ?_⟩
  · cases q : N b with
    | none => rw [join_none q] at e; exact w.jh b u e
    | some o => rw [join_some q] at e; cases e; exact sN b _ q
  · obtain ⟨e, y⟩ := delW_some e
    rw [join_none]
    · exact w.out b m e
    · exact priv_none fun pb => by rw [(w.tmp a _ h b pb).2.1 y] at e; cases e
  · obtain ⟨e, y⟩ := delW_some e
    exact (w.cell b m e).mono sj fun _ _ _ z => z
  · obtain ⟨e, y⟩ := delW_some e
    obtain ⟨t1, t2, t3⟩ := w.tmp b m' e b' nb
    refine ⟨by rw [join_none (priv_none (t3 a _ (Ne.symm y) h))]; exact t1, fun ne => by unfold delW; split; rfl; exact t2 ne, fun c m2 nc ec => t3 c m2 nc (delW_some ec).1⟩
end
/-! ### slots -/
abbrev DS := List (Option PyData)
def Sl (K : PySem.W.Frag) (J : Hp) (σ : L2.St) (ρ : DS) : Prop := σ.length = ρ.length ∧ ∀ (i : Nat) (d : PyData), ρ[i]? = some (some d) → ∃ v, σ[i]? = some (some v) ∧ Rp K J v d
section
variable {K : PySem.W.Frag} {J J1 : Hp} {σ : L2.St} {ρ : DS} {i : Nat} {v : V} {d : PyData}
theorem Sl.mono (h : Sl K J σ ρ) (e : Same J J1) : Sl K J1 σ ρ := ⟨h.1, fun i d z => by obtain ⟨v, h1, h2⟩ := h.2 i d z; exact ⟨v, h1, rp_mono e d v h2⟩⟩
theorem Sl.set (h : Sl K J σ ρ) (i : Nat) (r : Rp K J v d) : Sl K J (σ.set i (some v)) (ρ.set i (some d)) := by
  refine ⟨by rw [List.length_set, List.length_set]; exact h.1, fun j e z => ?_⟩
  by_cases y : i = j
  · subst y
    rw [List.getElem?_set] at z
    rw [if_pos rfl] at z
    split at z
    · rename_i hl
      cases z
      exact ⟨v, by rw [List.getElem?_set, if_pos rfl, if_pos (by rw [h.1]; exact hl)], r⟩
    · cases z
  · rw [List.getElem?_set_ne y] at z
    obtain ⟨u, h1, h2⟩ := h.2 j e z
    exact ⟨u, by rw [List.getElem?_set_ne y]; exact h1, h2⟩
theorem Sl.clear (h : Sl K J σ ρ) (i : Nat) (o : Option V) : Sl K J (σ.set i o) (ρ.set i none) := by
  refine ⟨by rw [List.length_set, List.length_set]; exact h.1, fun j e z => ?_⟩
  by_cases y : i = j
  · subst y
    rw [List.getElem?_set, if_pos rfl] at z
    split at z <;> cases z
  · rw [List.getElem?_set_ne y] at z
    obtain ⟨u, h1, h2⟩ := h.2 j e z
    exact ⟨u, by rw [List.getElem?_set_ne y]; exact h1, h2⟩
def wipeD (ρ : DS) : List Nat → DS
  | [] => ρ
  | v :: vs => (wipeD ρ vs).set v none
theorem Sl.wipe (h : Sl K J σ ρ) : ∀ vs : List Nat, Sl K J (wipe σ vs) (wipeD ρ vs)
  | [] => h
  | v :: vs => by unfold L2.wipe wipeD; exact (Sl.wipe h vs).clear v none
theorem wipe_set {o : Option V} : ∀ {vs : List Nat}, i ∈ vs → wipe (σ.set i o) vs = wipe σ vs
  | v :: vs, h => by
    unfold wipe
    by_cases y : i ∈ vs
    · rw [wipe_set y]
    · have e : i = v := by
        cases h with
        | head => rfl
        | tail _ h => exact absurd h y
      subst e
      have cm : ∀ (vs : List Nat) (σ : L2.St), i ∉ vs → wipe (σ.set i o) vs = (wipe σ vs).set i o := by
        intro vs
        induction vs with
        | nil => intro σ _; rfl
        | cons w ws ih =>
          intro σ hn
          unfold wipe
          rw [ih σ fun z => hn (List.mem_cons_of_mem _ z), List.set_comm]
          exact fun z => hn (by rw [z]; exact List.mem_cons_self)
      rw [cm vs σ y, List.set_set]
/-- the slots at a call's entry -/
def startD (N : List Str) (ts : List PyData) : DS := ts.map some ++ List.replicate (N.length - ts.length) none
theorem sl_start {N : List Str} {vs : List V} {ts : List PyData} (h : RpAll K J vs ts) : Sl K J (start N vs) (startD N ts) := by
  have hl := h.length
  refine ⟨by simp [L2.start, startD, hl], fun i d z => ?_⟩
  unfold startD at z
  unfold L2.start
  by_cases hi : i < ts.length
  · rw [List.getElem?_append_left (by simpa using hi), List.getElem?_map] at z
    obtain ⟨e, he, z⟩ := Option.map_eq_some_iff.mp z
    cases z
    obtain ⟨v, h1, h2⟩ := h.getD he
    exact ⟨v, by rw [List.getElem?_append_left (by simpa [hl] using hi), List.getElem?_map, h1]; rfl, h2⟩
  · rw [List.getElem?_append_right (by simpa using hi), List.getElem?_replicate] at z
    split at z <;> cases z
end
end Tx

namespace Tx
open PySem PySem.Spec PyProof.Rows L2
abbrev sValue : Stmt := top 25
theorem scValue : FnScope ["_law_bag_here", "_law_deep", "_law_room", "_law_pick", "_law_turn", "_law_made", "_law_left"] ["_law_bag_here", "_law_deep", "_law_room"] (defScope sValue) := ⟨rfl, rfl, rfl, by decide +kernel, rfl, by decide +kernel, by decide +kernel⟩
/-- value(bag, deep, room), deep below n -/
def spValue (K : PySem.W.Frag) (n : Nat) : Sp := fun vs H Q _ => ∃ (b : Addr) (J : Hp) (deep room : Int), vs = [.ref b, .int deep, .int room] ∧ Bag H b ∧ J b = none ∧ Same J H ∧ 0 ≤ deep ∧ deep < n ∧ 1 ≤ room ∧ room ≤ 1000 ∧
  ∀ (v : V) (d : PyData) (J' H' : Hp), Gro b J H J' H' → Rp K J' v d → Val deep.toNat room.toNat d → Q v H'
section
variable {P : Program} {w : World} {K : PySem.W.Frag} {mg : Str → Option Value} {base : Heap}
theorem d_value (h : Has K mg "_law_value" sValue) (B : Bi mg) (D_law_take : Dfn P w K mg base CX0 1 "_law_take" ["_law_bag_here", "_law_many_here"] spTake) (D_law_text : Dfn P w K mg base CX0 2 "_law_text" ["_law_bag_here", "_law_most"] spText)
    (D_law_size : Dfn P w K mg base CX0 20 "_law_size" ["_law_value_here"] (spSize K 20)) : ∀ n, n ≤ 19 → Dfn P w K mg base CX0 (n + 20) "_law_value" ["_law_bag_here", "_law_deep", "_law_room"] (spValue K n)
  | 0, _ => (dfn_none h (fun _ _ _ _ _ _ us hl => match us, hl with | [_, _, _], _ => rfl) fun vs H Q E z => by
    obtain ⟨_, _, _, _, _, _, _, _, z1, z2, _⟩ := z
    omega).mono (by omega)
  | n + 1, hn => by
    have D_law_value := d_value h B D_law_take D_law_text D_law_size n (by omega)
    refine dfn0 (k := n + 20) h B scValue (fun _ _ _ _ _ _ us hl => match us, hl with | [_, _, _], _ => rfl) (fun vs H Q E h => ?_) (fun f cv A out s H vs Q E c h => ?_)
    · obtain ⟨b, J, deep, room, rfl, _⟩ := h
      rfl
    obtain ⟨b, J, deep, room, rfl, hB, jb, js, d0, dn, r1, r2, q⟩ := h
    refine ⟨_, (pss_cons (ps_set (i := 3) scValue.nd rfl (Or.inl rfl) (pe_d D_law_take c (by omega) (by rfl) (pa_cons (pv 0) (pa_cons pe_int pa_nil))))
    (pss_cons (ps_if (PW.pt (pw_or (pt_cmpR op_eq (pv 3) pe_int (nomark _)) (pw_or1 (pt_cmpR op_eq (pv 2) pe_int (nomark _))))) (pss_one (ps_ret (pe_ix ix_list (pe_lst (pa_cons pe_non (pa_cons pe_str (pa_cons (pe_lst pa_nil) pa_nil)))) (pe_d D_law_take c (by omega) (by rfl) (pa_cons (pv 0) (pa_cons (pe_ifExp (pt_cmpR op_gt (pv 1) pe_int (nomark _)) pe_int pe_int) pa_nil))) (fun _ _ => rfl)))) pss_nil)
    (pss_cons (ps_if (PW.pt (pw_or (pt_cmpR op_eq (pv 3) pe_int (nomark _)) (pw_or1 (pt_cmpR op_eq (pv 1) pe_int (nomark _))))) (pss_one (ps_ret (pe_d D_law_text c (by omega) (by rfl) (pa_cons (pv 0) (pa_cons (pe_callB (call_min2 rfl) (by rfl) c.b.min (by decide +kernel) (pa_cons pe_int (pa_cons (pe_op op_sub (pv 2) pe_int) pa_nil))) pa_nil))))) pss_nil)
    (pss_cons (ps_par (i := 5) (j := 6) rfl scValue.nd rfl rfl (by decide) rfl rfl (pa_cons (pe_lst pa_nil) (pa_cons (pe_op op_sub (pv 2) pe_int) pa_nil)) (by rfl))
    (pss_cons (ps_for PassesOwn.never rfl (pi_range1 (by rfl) c.b.range (pa_cons (pe_d D_law_take c (by omega) (by rfl) (pa_cons (pv 0) (pa_cons pe_int pa_nil))) pa_nil)) (pg_name (i := 4) scValue.nd rfl (Or.inl rfl))
    (pss_one (ps_if (pt_cmpR op_gt (pv 6) pe_int (nomark _)) (pss_cons (ps_expr (pe_bm PySem.F.plainAttrs_list PySem.F.slot_list_append PySem.F.type_list_append mt_append (pv 5) (pa_cons (pe_d D_law_value c (by omega) (by rfl) (pa_cons (pv 0) (pa_cons (pe_op op_sub (pv 1) pe_int) (pa_cons (pv 6) pa_nil)))) pa_nil)))
    (pss_one (ps_set (i := 6) scValue.nd rfl (Or.inl rfl) (pe_op op_sub (pv 6) (pe_d D_law_size c (by omega) (by rfl) (pa_cons (pe_ix ix_list (pv 5) (pe_un un_neg pe_int) (fun _ _ => rfl)) pa_nil)))))) pss_nil)))
    (pss_one (ps_ret (pv 5)))))))), ?_⟩
    refine ⟨_, rfl, b, 5, rfl, hB, by decide, by decide, fun pick H1 p0 p1 st1 => ?_⟩
    have g1 : Gro b J H J H1 := st1.gro jb js
    refine ⟨_, rfl, rfl, _, rfl, ?_⟩
    refine ite2 (fun _ => ?ret) (fun n0 => ⟨_, rfl, rfl, _, rfl, ite2 (fun _ => ?ret') (fun n1 => ?go)⟩)
    case go =>
      refine ⟨_, rfl, rfl, _, rfl, ite2 (fun _ => ?txt) (fun _ => ⟨_, rfl, rfl, _, rfl, ite2 (fun _ => ?txt') (fun m1 => ?lst)⟩)⟩
      case lst =>
        have deep1 : deep ≠ 0 := fun z => m1 (by rw [z]; rfl)
        refine ⟨(by show 0 ≤ sizeLine; decide), fun r hr => ⟨_, rfl, _, _, rfl, rfl, _, _, rfl, ?_⟩⟩
        have hrH : H r = none := st1.free hB hr
        have rb : r ≠ b := st1.ne hr
        have g2 := g1.new hr (.lst [])
        refine ⟨_, rfl, b, 5, rfl, g2.st.bag, by decide, by decide, fun t H2 t0 t1 st2 => ⟨t, rfl, by omega, by omega, ?_⟩⟩
        have g3 := g2.step st2 hB jb
        have hjr : J r = none := js.free hrH
        refine for_range (lo := 0) (n := t.toNat) (fun i σ H' => ∃ (u : Option V) (left : Int) (Ji : Hp) (vs : List V) (ds : List PyData),
            σ = [some (.ref b), some (.int deep), some (.int room), some (.int pick), u, some (.ref r), some (.int left)] ∧ Gro b J H Ji H' ∧ H' r = some (.lst vs) ∧ Ji r = none ∧
            RpAll K Ji vs ds ∧ isValAll ds = true ∧ PyData.depthAll ds ≤ (deep - 1).toNat ∧ 0 ≤ left ∧ (szAll ds : Int) + left = room - 1 ∧ vs.length ≤ i)
          ⟨none, room - 1, J, [], [], rfl, g3, st2.keep r _ rb upd_same, hjr, .nil, rfl, by simp [PyData.depthAll], by omega, by simp [szAll], Nat.le_refl _⟩ ?_ ?_
        · rintro i σ H3 hi ⟨u, left, Ji, vs, ds, rfl, g, hr3, jr, ha, val, dep, l0, ls, vl⟩
          refine ⟨_, rfl, _, _, rfl, rfl, _, rfl, ite2 (fun lp => ?_) (fun _ => ?_)⟩
          · have lp' : 0 < left := of_decide_eq_true lp
            have jib : Ji b = none := g.noBag hB jb
            refine ⟨_, rfl, .inl ⟨rfl, _, SqL.of hr3⟩, _, rfl, _, rfl, _, _, rfl, rfl, _, rfl, b, Ji, deep - 1, left, rfl, g.st.bag, jib, g.jh, by omega, by omega, by omega, by omega, fun v d J2 H4 g4 hd vd => ?_⟩
            have hr4 : H4 r = some (.lst vs) := g4.st.keep r _ rb hr3
            have jr2 : J2 r = none := g4.fr r (by rw [hr3]; simp) jr
            have vdz := vd.size
            have vdd := vd.deep
            refine ⟨r, vs, v, rfl, rfl, hr4, (by rw [sizeLine_eq]; omega), ?_⟩
            have g5 := (g.trans g4 hB).mut hrH jr2 rb (.lst (vs ++ [v]))
            refine ⟨_, rfl, _, rfl, _, rfl, r, _, _, v, rfl, rfl, SqL.of upd_same, atI_last _ _, v, d, rfl, dp_mono g5.jh d v (rp_dp d v (fine_lay d (val_fine d vd.val)) hd), vd.val, by omega, by omega, fun H5 sm => ?_⟩
            refine ⟨_, _, rfl, rfl, some (.int (0 + i)), left - szD d, J2, vs ++ [v], ds ++ [d], rfl, g5.same sm, sm _ _ upd_same, jr2, RpAll.append (rpAll_mono g4.jj ds vs ha) (RpAll.one hd), ?_, ?_, by omega, ?_, ?_⟩
            · exact isValAll_iff.mpr fun x hx => (List.mem_append.mp hx).elim (isValAll_iff.mp val x) fun hx => by rw [List.mem_singleton.mp hx]; exact vd.val
            · refine depthAll_le fun x hx => (List.mem_append.mp hx).elim (fun hx => Nat.le_trans (depth_mem hx) dep) fun hx => by rw [List.mem_singleton.mp hx]; exact vdd
            · rw [szAll_append]
              simp only [szAll]
              omega
            · rw [List.length_append]
              show vs.length + 1 ≤ i + 1
              omega
          · exact ⟨_, left, Ji, vs, ds, rfl, g, hr3, jr, ha, val, dep, l0, ls, by omega⟩
        · rintro σ H3 ⟨u, left, Ji, vs, ds, rfl, g, hr3, jr, ha, val, dep, l0, ls, vl⟩
          refine ⟨_, rfl, q (.ref r) (.list ds) _ H3 (g.own hr3 hrH jr) (.lst upd_same (rpAll_mono (same_new jr _) ds vs ha)) ⟨?_, ?_, ?_⟩⟩
          · simpa only [isVal] using val
          · simp only [PyData.depth]
            omega
          · simp only [szD]
            omega
      all_goals
        refine ⟨_, rfl, _, rfl, _, _, rfl, rfl, _, _, rfl, b, _, rfl, g1.st.bag, ?_, ?_, fun x H2 xl xn st2 => ?_⟩
        · split <;> omega
        · split <;> omega
        refine q (.str x) (.str x) J H2 (g1.step st2 hB jb) (.str x) ⟨?_, ?_, ?_⟩
        · simpa only [isVal] using xl
        · simp [PyData.depth]
        · simp only [szD]
          split at xn <;> omega
    all_goals
      refine ⟨(by show 0 ≤ sizeLine; decide), fun e he => ⟨(by show 3 ≤ sizeLine; decide), fun p hp => ⟨_, rfl, _, rfl, _, _, rfl, rfl, _, rfl, ?_⟩⟩⟩
      have g2 := (g1.add hB he (.lst [])).new hp (.lst [.non, .str "", .ref e])
      have pb : p ≠ b := (g1.add hB he (.lst [])).st.ne hp
      refine ite2 (fun dp => ?_) (fun dp => ?_)
      · have dp' : 0 < deep := of_decide_eq_true dp
        refine ⟨b, 3, rfl, g2.st.bag, by decide, by decide, fun r H2 r0 r1 st2 => ?_⟩
        obtain ⟨v, e1, e2⟩ := atI_of (xs := [V.non, V.str "", V.ref e]) r0 r1
        refine ⟨p, _, _, _, rfl, rfl, SqL.of (st2.keep p _ pb upd_same), e1, ?_⟩
        have g3 := g2.step st2 hB jb
        have h3 : r.toNat = 0 ∨ r.toNat = 1 ∨ r.toNat = 2 := by omega
        rcases h3 with z | z | z <;> rw [z] at e2 <;> cases e2
        · exact q _ .none _ H2 g3 .non ⟨rfl, by simp [PyData.depth], by simp only [szD]; omega⟩
        · exact q _ (.str "") _ H2 g3 (.str _) ⟨rfl, by simp [PyData.depth], by simp only [szD]; show 1 + 0 ≤ _; omega⟩
        · exact q _ (.list []) _ H2 g3 (.lst upd_same .nil) ⟨rfl, by simp only [PyData.depth, PyData.depthAll]; omega, by simp only [szD, szAll]; omega⟩
      · refine ⟨b, 2, rfl, g2.st.bag, by decide, by decide, fun r H2 r0 r1 st2 => ?_⟩
        obtain ⟨v, e1, e2⟩ := atI_of (xs := [V.non, V.str "", V.ref e]) r0 (by show r < 3; omega)
        refine ⟨p, _, _, _, rfl, rfl, SqL.of (st2.keep p _ pb upd_same), e1, ?_⟩
        have g3 := g2.step st2 hB jb
        have h3 : r.toNat = 0 ∨ r.toNat = 1 := by omega
        rcases h3 with z | z <;> rw [z] at e2 <;> cases e2
        · exact q _ .none _ H2 g3 .non ⟨rfl, by simp [PyData.depth], by simp only [szD]; omega⟩
        · exact q _ (.str "") _ H2 g3 (.str _) ⟨rfl, by simp [PyData.depth], by simp only [szD]; show 1 + 0 ≤ _; omega⟩
end
end Tx

namespace Tx
open PySem PySem.Spec PyProof.Rows L2
/-- a text so often: its letters, and how many at most -/
theorem op_rep_str {X : Cx} : OpR X (binaryOp .Mult) (fun x y H Q => ∃ (z : Str) (n : Int), x = .str z ∧ y = .int n ∧ 1 ≤ n ∧ n ≤ 1000 ∧ z.length ≤ 1000 ∧
    ∀ u : Str, (∀ c ∈ u.cps.toList, c ∈ z.cps.toList) → u.length ≤ z.length * n.toNat → Q (.str u) H) := by
  intro pins s σ H x y v u Q I rx ry ask
  obtain ⟨z, n, rfl, rfl, n0, n1, z1, q⟩ := ask
  obtain ⟨t, rfl⟩ := rx
  obtain ⟨t', rfl⟩ := ry
  have le : z.length * n.toNat ≤ 1000 * 1000 := Nat.mul_le_mul z1 (by omega)
  have hok : MulOk z n := by
    refine ⟨?_, fun _ _ => ?_, fun _ _ => ?_⟩
    · simp only [Bool.or_eq_false_iff, decide_eq_false_iff_not]
      omega
    · have h1 : (9223372036854775 : Int) ≤ (2 ^ 63 - 1) / n := by
        rw [Int.le_ediv_iff_mul_le (by omega)]
        omega
      omega
    · unfold PySem.Builtin.Str.tooLong
      simp only [decide_eq_false_iff_not]
      rw [sizeLine_eq]
      omega
  have mem : ∀ (k : Nat) (acc : Array Nat), (∀ c ∈ acc.toList, c ∈ z.cps.toList) → (∀ c ∈ ((List.replicate k z.cps).foldl (· ++ ·) acc).toList, c ∈ z.cps.toList) ∧ ((List.replicate k z.cps).foldl (· ++ ·) acc).size = acc.size + z.cps.size * k := by
    intro k
    induction k with
    | zero => intro acc h; exact ⟨h, by simp⟩
    | succ k ih =>
      intro acc h
      rw [List.replicate_succ, List.foldl_cons]
      obtain ⟨i1, i2⟩ := ih (acc ++ z.cps) (fun c hc => by
        rw [Array.toList_append] at hc
        exact (List.mem_append.mp hc).elim (h c) id)
      refine ⟨i1, ?_⟩
      rw [i2, Array.size_append, Nat.mul_succ]
      omega
  have key : (∀ c ∈ (Txt.mul z n).cps.toList, c ∈ z.cps.toList) ∧ (Txt.mul z n).length ≤ z.length * n.toNat := by
    unfold Txt.mul
    rw [if_neg (by omega)]
    split
    · exact ⟨fun _ h => h, Nat.le_mul_of_pos_right _ (by omega)⟩
    · obtain ⟨m1, m2⟩ := mem n.toNat #[] (fun c hc => by simp at hc)
      exact ⟨m1, by show ((List.replicate n.toNat z.cps).foldl (· ++ ·) #[]).size ≤ _; rw [m2]; show 0 + z.cps.size * n.toNat ≤ z.cps.size * n.toNat; omega⟩
  refine SB.mul hok fun t2 k => ?_
  exact ⟨.str (Txt.mul z n), H, I.tok k, ⟨t2, rfl⟩, q _ key.1 key.2⟩
theorem cutV_to {xs : List V} {r : Int} (h : 0 ≤ r) : cutV xs none (some r) = xs.take r.toNat := by
  unfold cutV
  obtain ⟨k, rfl⟩ := Int.eq_ofNat_of_zero_le h
  rw [HT.sIx_none, HT.sIx_nat, List.drop_zero, Nat.sub_zero]
  rw [Int.toNat_natCast]
  by_cases hk : k ≤ xs.length
  · rw [Nat.min_eq_left hk]
  · rw [Nat.min_eq_right (by omega), List.take_length, List.take_of_length_le (by omega)]
theorem cutS_to {z : Str} {r : Int} (h : 0 ≤ r) : (∀ c ∈ (cutS z none (some r)).cps.toList, c ∈ z.cps.toList) ∧ ((cutS z none (some r)).length : Int) ≤ r := by
  obtain ⟨k, rfl⟩ := Int.eq_ofNat_of_zero_le h
  unfold cutS
  rw [HT.sIx_none, HT.sIx_nat, List.drop_zero, Nat.sub_zero]
  refine ⟨fun c hc => List.mem_of_mem_take (by simpa using hc), ?_⟩
  show (((z.cps.toList.take (min k z.length)).toArray.size : Nat) : Int) ≤ (k : Int)
  simp
  omega
theorem ltr_sub {x z : Str} (hz : ltr z = true) (h : ∀ c ∈ x.cps.toList, c ∈ z.cps.toList) : ltr x = true := by
  unfold ltr at *
  exact List.all_eq_true.mpr fun c hc => List.all_eq_true.mp hz c (h c hc)
theorem mem_rep {α : Type} {x : α} {l : List α} {n : Nat} (h : x ∈ (List.replicate n l).flatten) : x ∈ l := by
  obtain ⟨m, hm, hx⟩ := List.mem_flatten.mp h
  rw [(List.mem_replicate.mp hm).2] at hx
  exact hx
/-- a list of values -/
theorem Val.list {n m : Nat} {ds : List PyData} (h1 : ∀ d ∈ ds, isVal d = true) (h2 : ∀ d ∈ ds, d.depth ≤ n) (h3 : szAll ds ≤ m) : Val (n + 1) (m + 1) (.list ds) :=
  ⟨by simpa only [isVal] using isValAll_iff.mpr h1, by simp only [PyData.depth]; have := depthAll_le h2; omega, by simp only [szD]; omega⟩
end Tx

namespace Tx
open PySem PySem.Spec PyProof.Rows L2
/-! ## Readings over data -/
abbrev DQ := PyData → Wd → Prop
abbrev DXK := Addr → List (Str × PyData) → Wd → Prop
abbrev DTE := DS → Wd → DQ → DXK → Prop
abbrev DTT := DS → Wd → (Bool → Wd → Prop) → DXK → Prop
abbrev DTA := DS → Wd → (List PyData → Wd → Prop) → DXK → Prop
structure DEnds where
  nx : DS → Wd → Prop
  rt : DQ
  bk : DS → Wd → Prop
  ct : DS → Wd → Prop
  xc : Addr → List (Str × PyData) → DS → Wd → Prop
abbrev DTS := DEnds → DS → Wd → Prop
/-- an error's own dict -/
def XdOk (K : PySem.W.Frag) (H0 J H : Hp) (ω : Wd) (d : Option Addr) (fs : List (Str × PyData)) : Prop :=
  match d with
  | none => fs = []
  | some dd => H0 dd = none ∧ J dd = none ∧ Fr ω dd ∧ ∃ gs, H dd = some (.xd gs) ∧ RpF K J gs fs
theorem XdOk.back {K : PySem.W.Frag} {H0 H1 J H : Hp} {ω : Wd} {d : Option Addr} {fs : List (Str × PyData)} (h : XdOk K H1 J H ω d fs) (k : ∀ a, H0 a ≠ none → H1 a ≠ none) : XdOk K H0 J H ω d fs := by
  cases d with
  | none => exact h
  | some dd =>
    refine ⟨?_, h.2⟩
    cases q : H0 dd with
    | none => rfl
    | some o => exact absurd h.1 (k dd (by rw [q]; simp))
section
variable (K : PySem.W.Frag) (J H : Hp) (ω : Wd)
def CovQ (q : DQ) (Q : VK) : Prop := ∀ r ω' v J' H', q r ω' → Grow J H ω J' H' ω' → Rw K J' H' ω' → Rp K J' v r → Q v H'
def CovT (q : Bool → Wd → Prop) (Q : Bool → Hp → Prop) : Prop := ∀ b ω' J' H', q b ω' → Grow J H ω J' H' ω' → Rw K J' H' ω' → Q b H'
def CovA (q : List PyData → Wd → Prop) (Q : List V → Hp → Prop) : Prop := ∀ rs ω' vs J' H', q rs ω' → Grow J H ω J' H' ω' → Rw K J' H' ω' → RpAll K J' vs rs → Q vs H'
def CovX (x : DXK) (E : XK) : Prop := ∀ C fs ω' d J' H', x C fs ω' → Grow J H ω J' H' ω' → Rw K J' H' ω' → XdOk K H J' H' ω' d fs → E (.ref C) d H'
structure CovS (W : WX) (DD : DEnds) (D : Ends) : Prop where
  nx : ∀ ρ' ω' σ' J' H', DD.nx ρ' ω' → Grow J H ω J' H' ω' → Rw K J' H' ω' → Sl K J' σ' ρ' → D.nx σ' H'
  bk : ∀ ρ' ω' σ' J' H', DD.bk ρ' ω' → Grow J H ω J' H' ω' → Rw K J' H' ω' → Sl K J' σ' ρ' → D.bk σ' H'
  ct : ∀ ρ' ω' σ' J' H', DD.ct ρ' ω' → Grow J H ω J' H' ω' → Rw K J' H' ω' → Sl K J' σ' ρ' → D.ct σ' H'
  rt : CovQ K J H ω DD.rt D.rt
  xc : ∀ C fs ρ' ω' d σ' J' H', DD.xc C fs ρ' ω' → Grow J H ω J' H' ω' → Rw K J' H' ω' → Sl K J' σ' ρ' → XdOk K H J' H' ω' d fs → W (.ref C) d σ' H'
end
section
variable {K : PySem.W.Frag} {J H J1 H1 : Hp} {ω ω1 : Wd}
theorem CovQ.step {q : DQ} {Q : VK} (c : CovQ K J H ω q Q) (g : Grow J H ω J1 H1 ω1) : CovQ K J1 H1 ω1 q Q := fun r ω' v J' H' z k w rp => c r ω' v J' H' z (g.trans k) w rp
theorem CovT.step {q : Bool → Wd → Prop} {Q : Bool → Hp → Prop} (c : CovT K J H ω q Q) (g : Grow J H ω J1 H1 ω1) : CovT K J1 H1 ω1 q Q := fun r ω' J' H' z k w => c r ω' J' H' z (g.trans k) w
theorem CovA.step {q : List PyData → Wd → Prop} {Q : List V → Hp → Prop} (c : CovA K J H ω q Q) (g : Grow J H ω J1 H1 ω1) : CovA K J1 H1 ω1 q Q := fun r ω' v J' H' z k w rp => c r ω' v J' H' z (g.trans k) w rp
theorem CovX.step {q : DXK} {E : XK} (c : CovX K J H ω q E) (g : Grow J H ω J1 H1 ω1) : CovX K J1 H1 ω1 q E := fun C fs ω' d J' H' z k w x => c C fs ω' d J' H' z (g.trans k) w (x.back g.dom)
theorem CovS.step {W : WX} {DD : DEnds} {D : Ends} (c : CovS K J H ω W DD D) (g : Grow J H ω J1 H1 ω1) : CovS K J1 H1 ω1 W DD D :=
  ⟨fun ρ' ω' σ' J' H' z k w s => c.nx ρ' ω' σ' J' H' z (g.trans k) w s, fun ρ' ω' σ' J' H' z k w s => c.bk ρ' ω' σ' J' H' z (g.trans k) w s, fun ρ' ω' σ' J' H' z k w s => c.ct ρ' ω' σ' J' H' z (g.trans k) w s, c.rt.step g,
    fun C fs ρ' ω' d σ' J' H' z k w s x => c.xc C fs ρ' ω' d σ' J' H' z (g.trans k) w s (x.back g.dom)⟩
theorem CovS.x {W : WX} {DD : DEnds} {D : Ends} (c : CovS K J H ω W DD D) {σ : L2.St} {ρ : DS} (s : Sl K J σ ρ) : CovX K J H ω (fun C fs ω' => DD.xc C fs ρ ω') (fun cl d H => W cl d σ H) :=
  fun C fs ω' d J' H' z k w x => c.xc C fs ρ ω' d σ J' H' z k w (s.mono k.jj) x
end
/-- an expression and its reading over data -/
structure DE (W : WX) (X : Cx) (K : PySem.W.Frag) (e : Expr) (td : DTE) : Prop where
  ex : ∃ t : TE, PE X e t ∧ ∀ σ H J ω ρ q x Q, Rw K J H ω → Sl K J σ ρ → CovQ K J H ω q Q → CovX K J H ω x (fun c d H => W c d σ H) → td ρ ω q x → t σ H Q
structure DT (W : WX) (X : Cx) (K : PySem.W.Frag) (e : Expr) (td : DTT) : Prop where
  ex : ∃ t : TT, PT X e t ∧ ∀ σ H J ω ρ q x Q, Rw K J H ω → Sl K J σ ρ → CovT K J H ω q Q → CovX K J H ω x (fun c d H => W c d σ H) → td ρ ω q x → t σ H Q
structure DW (W : WX) (X : Cx) (K : PySem.W.Frag) (e : Expr) (td : DTT) : Prop where
  ex : ∃ t : TT, PW X e t ∧ ∀ σ H J ω ρ q x Q, Rw K J H ω → Sl K J σ ρ → CovT K J H ω q Q → CovX K J H ω x (fun c d H => W c d σ H) → td ρ ω q x → t σ H Q
structure DAs (W : WX) (X : Cx) (K : PySem.W.Frag) (es : List Expr) (td : DTA) : Prop where
  ex : ∃ t : TA, PA X es t ∧ ∀ σ H J ω ρ q x Q, Rw K J H ω → Sl K J σ ρ → CovA K J H ω q Q → CovX K J H ω x (fun c d H => W c d σ H) → td ρ ω q x → t σ H Q
structure DSt (W : WX) (X : Cx) (K : PySem.W.Frag) (st : Stmt) (td : DTS) : Prop where
  ex : ∃ t : TS, PS X st t ∧ ∀ D DD σ H J ω ρ, Rw K J H ω → Sl K J σ ρ → CovS K J H ω W DD D → td DD ρ ω → t D σ H
structure DSs (W : WX) (X : Cx) (K : PySem.W.Frag) (st : List Stmt) (td : DTS) : Prop where
  ex : ∃ t : TS, PSs X st t ∧ ∀ D DD σ H J ω ρ, Rw K J H ω → Sl K J σ ρ → CovS K J H ω W DD D → td DD ρ ω → t D σ H
/-! ### what an operation does with data -/
/-- a list of one's own, read -/
def rsv (ω : Wd) : PyData → PyData
  | .dict [(.int i, .none)] => match ω i.toNat with
    | some (.lst ds) => .list ds
    | _ => .dict [(.int i, .none)]
  | d => d
/-- what is shown: cells at any depth of data -/
def cellD (ω : Wd) (a : Addr) : PyData := match ω a with
  | some (.lst ds) => .list ds
  | some (.tmp _ d) => d
  | _ => refD a
mutual
def full (ω : Wd) : PyData → PyData
  | .dict [(.int i, .none)] => cellD ω i.toNat
  | .list xs => .list (fullAll ω xs)
  | .tuple xs => .tuple (fullAll ω xs)
  | d => d
def fullAll (ω : Wd) : List PyData → List PyData
  | [] => []
  | x :: xs => full ω x :: fullAll ω xs
end
def Full (ω : Wd) (d e : PyData) : Prop := d = e ∨ full ω d = e
section
variable {K : PySem.W.Frag} {J H : Hp} {ω : Wd} {v : V} {d : PyData}
theorem rsv_cell {a : Addr} {ds : List PyData} (h : ω a = some (.lst ds)) : rsv ω (refD a) = .list ds := by
  show (match ω (((a : Nat) : Int).toNat) with | some (.lst ds) => PyData.list ds | _ => _) = _
  rw [Int.toNat_natCast, h]
/-- the list that is read: it stands in H -/
theorem rp_list {xs : List PyData} (w : Rw K J H ω) (h : Rp K J v d) (e : rsv ω d = .list xs) : ∃ a vs, v = .ref a ∧ H a = some (.lst vs) ∧ RpAll K J vs xs := by
  cases h with
  | non => cases e
  | bl b => cases e
  | int i => cases e
  | str x => cases e
  | lst hs ha => cases e; exact ⟨_, _, rfl, w.jh _ _ hs, ha⟩
  | tup hs ha => cases e
  | scr hs => cases e
  | pub _ => cases e
  | dic _ _ => cases e
  | obj _ _ => cases e
  | ref a =>
    have e2 : (match ω (((a : Nat) : Int).toNat) with | some (.lst ds) => PyData.list ds | _ => .dict [(.int ((a : Nat) : Int), .none)]) = .list xs := e
    rw [Int.toNat_natCast] at e2
    cases q : ω a with
    | none => rw [q] at e2; cases e2
    | some m =>
      rw [q] at e2
      cases m with
      | lst ds =>
        cases e2
        obtain ⟨vs, h1, h2⟩ := w.cell a _ q
        exact ⟨a, vs, rfl, h1, h2⟩
      | bag => cases e2
      | ins _ _ _ => cases e2
      | xd _ => cases e2
      | tmp _ _ => cases e2
      | ent _ _ _ _ _ => cases e2
      | dk _ => cases e2
      | dt _ => cases e2
theorem rp_tup {xs : List PyData} (w : Rw K J H ω) (h : Rp K J v d) (e : rsv ω d = .tuple xs) : ∃ a vs, v = .ref a ∧ SqT K H a vs ∧ RpAll K J vs xs ∧ Rp K J v (.tuple xs) := by
  cases h with
  | non => cases e
  | bl b => cases e
  | int i => cases e
  | str x => cases e
  | lst hs ha => cases e
  | tup hs ha => cases e; exact ⟨_, _, rfl, Same.sqT w.jh hs, ha, .tup hs ha⟩
  | scr hs => cases e
  | pub _ => cases e
  | dic _ _ => cases e
  | obj _ _ => cases e
  | ref a =>
    have e2 : (match ω (((a : Nat) : Int).toNat) with | some (.lst ds) => PyData.list ds | _ => .dict [(.int ((a : Nat) : Int), .none)]) = .tuple xs := e
    split at e2 <;> cases e2
theorem rp_flat (h : Rp K J v d) : (∀ z, rsv ω d = .str z → v = .str z) ∧ (∀ i, rsv ω d = .int i → v = .int i) ∧ (∀ b, rsv ω d = .bool b → v = .bl b) ∧ (rsv ω d = .none → v = .non) := by
  cases h with
  | ref a =>
    have e2 : rsv ω (refD a) = (match ω (((a : Nat) : Int).toNat) with | some (.lst ds) => PyData.list ds | _ => .dict [(.int ((a : Nat) : Int), .none)]) := rfl
    refine ⟨fun z e => ?_, fun z e => ?_, fun z e => ?_, fun e => ?_⟩ <;> (rw [e2] at e; split at e <;> cases e)
  | non => refine ⟨fun z e => ?_, fun z e => ?_, fun z e => ?_, fun e => ?_⟩ <;> (cases e <;> rfl)
  | bl b => refine ⟨fun z e => ?_, fun z e => ?_, fun z e => ?_, fun e => ?_⟩ <;> (cases e <;> rfl)
  | int i => refine ⟨fun z e => ?_, fun z e => ?_, fun z e => ?_, fun e => ?_⟩ <;> (cases e <;> rfl)
  | str x => refine ⟨fun z e => ?_, fun z e => ?_, fun z e => ?_, fun e => ?_⟩ <;> (cases e <;> rfl)
  | lst _ _ => refine ⟨fun z e => ?_, fun z e => ?_, fun z e => ?_, fun e => ?_⟩ <;> (cases e <;> rfl)
  | tup _ _ => refine ⟨fun z e => ?_, fun z e => ?_, fun z e => ?_, fun e => ?_⟩ <;> (cases e <;> rfl)
  | scr _ => refine ⟨fun z e => ?_, fun z e => ?_, fun z e => ?_, fun e => ?_⟩ <;> (cases e <;> rfl)
  | pub _ => refine ⟨fun z e => ?_, fun z e => ?_, fun z e => ?_, fun e => ?_⟩ <;> (cases e <;> rfl)
  | dic _ _ => refine ⟨fun z e => ?_, fun z e => ?_, fun z e => ?_, fun e => ?_⟩ <;> (cases e <;> rfl)
  | obj _ _ => refine ⟨fun z e => ?_, fun z e => ?_, fun z e => ?_, fun e => ?_⟩ <;> (cases e <;> rfl)
/-- data that is read, for the rules of the kit -/
theorem rp_rsv (w : Rw K J H ω) (h : Rp K J v d) (c : (rsv ω d).canLay0 = true) : Dp K H v (rsv ω d) := by
  cases h with
  | non => exact .non
  | bl b => exact .bl b
  | int i => exact .int i
  | str x => exact .str x
  | lst hs ha => exact dp_mono w.jh _ _ (rp_dp _ _ c (.lst hs ha))
  | tup hs ha => exact dp_mono w.jh _ _ (rp_dp _ _ c (.tup hs ha))
  | scr hs => simp [rsv, PyData.canLay0] at c
  | pub _ => simp [rsv, PyData.canLay0] at c
  | dic _ _ => simp [rsv, PyData.canLay0] at c
  | obj _ _ => simp [rsv, PyData.canLay0] at c
  | ref a =>
    cases e : rsv ω (refD a) with
    | list xs =>
      obtain ⟨b, vs, e1, e2, e3⟩ := rp_list w (.ref a) e
      rw [e] at c
      cases e1
      exact .lst (SqL.of e2) (dpAll_mono w.jh _ _ (rpAll_dp _ _ (by simpa only [PyData.canLay0] using c) e3))
    | dict _ => rw [e] at c; simp [PyData.canLay0] at c
    | none => have := (rp_flat (ω := ω) (Rp.ref (K := K) (J := J) a)).2.2.2 e; cases this
    | bool b => have := (rp_flat (ω := ω) (Rp.ref (K := K) (J := J) a)).2.2.1 b e; cases this
    | int b => have := (rp_flat (ω := ω) (Rp.ref (K := K) (J := J) a)).2.1 b e; cases this
    | str b => have := (rp_flat (ω := ω) (Rp.ref (K := K) (J := J) a)).1 b e; cases this
    | tuple b =>
      have e2 : rsv ω (refD a) = (match ω (((a : Nat) : Int).toNat) with | some (.lst ds) => PyData.list ds | _ => .dict [(.int ((a : Nat) : Int), .none)]) := rfl
      rw [e2] at e
      split at e <;> cases e
end
section
variable {K : PySem.W.Frag} {J H : Hp} {ω : Wd}
theorem cellD_dp (w : Rw K J H ω) (a : Addr) (c : (cellD ω a).canLay0 = true) : Dp K H (.ref a) (cellD ω a) := by
  unfold cellD at c ⊢
  split at c
  · rename_i ds e
    obtain ⟨vs, h1, h2⟩ := w.cell a _ e
    exact .lst (SqL.of h1) (dpAll_mono w.jh _ _ (rpAll_dp _ _ (by simpa only [PyData.canLay0] using c) h2))
  · rename_i N d e
    obtain ⟨s, r, _⟩ := w.cell a _ e
    exact dp_mono s _ _ (rp_dp _ _ c r)
  · simp [PyData.canLay0] at c
mutual
theorem full_dp (w : Rw K J H ω) : ∀ (d : PyData) (v : V), (full ω d).canLay0 = true → Rp K J v d → Dp K H v (full ω d)
  | .none, _, _, h => by cases h; simp only [full]; exact .non
  | .bool b, _, _, h => by cases h; simp only [full]; exact .bl b
  | .int i, _, _, h => by cases h; simp only [full]; exact .int i
  | .str x, _, _, h => by cases h; simp only [full]; exact .str x
  | .list ds, _, c, h => by
    cases h with
    | lst hs ha =>
      simp only [full] at c ⊢
      exact .lst (SqL.of (w.jh _ _ hs)) (fullAll_dp w ds _ (by simpa only [PyData.canLay0] using c) ha)
  | .tuple ds, _, c, h => by
    cases h with
    | tup hs ha =>
      simp only [full] at c ⊢
      exact .tup (Same.sqT w.jh hs) (fullAll_dp w ds _ (by simpa only [PyData.canLay0] using c) ha)
  | .dict _, _, c, h => by
    cases h with
    | ref a =>
      simp only [full, Int.toNat_natCast] at c ⊢
      exact cellD_dp w _ c
    | scr hs => simp [full, PyData.canLay0] at c
    | pub _ => simp [full, PyData.canLay0] at c
    | dic _ _ => simp [full, PyData.canLay0] at c
    | obj _ _ => simp [full, PyData.canLay0] at c
theorem fullAll_dp (w : Rw K J H ω) : ∀ (ds : List PyData) (vs : List V), PyData.canLayAll0 (fullAll ω ds) = true → RpAll K J vs ds → DpAll K H vs (fullAll ω ds)
  | [], _, _, h => by cases h; simp only [fullAll]; exact .nil
  | d :: ds, _, c, h => by
    simp only [fullAll, PyData.canLayAll0, Bool.and_eq_true] at c
    cases h with
    | cons h1 h2 => simp only [fullAll]; exact .cons (full_dp w d _ c.1 h1) (fullAll_dp w ds _ c.2 h2)
end
theorem Full.dp {v : V} {d e : PyData} (h : Full ω d e) (w : Rw K J H ω) (r : Rp K J v d) (c : e.canLay0 = true) : Dp K H v e := by
  rcases h with rfl | rfl
  · exact dp_mono w.jh _ _ (rp_dp _ _ c r)
  · exact full_dp w d v c r
theorem Full.rfl' {d : PyData} : Full ω d d := .inl rfl
theorem Full.cell {a : Addr} {ds : List PyData} (h : ω a = some (.lst ds)) : Full ω (refD a) (.list ds) := .inr (by simp only [full, Int.toNat_natCast, cellD, h])
theorem Full.tmp {a : Addr} {N : Hp} {d : PyData} (h : ω a = some (.tmp N d)) : Full ω (refD a) d := .inr (by simp only [full, Int.toNat_natCast, cellD, h])
end
abbrev RD2 := PyData → PyData → Wd → (PyData → Prop) → Prop
abbrev RD1 := List PyData → Wd → (PyData → Prop) → Prop
def lift2 (K : PySem.W.Frag) (rd : RD2) : R2 := fun x y H Q => ∃ J ω dx dy q, Rw K J H ω ∧ Rp K J x dx ∧ Rp K J y dy ∧ CovQ K J H ω q Q ∧ rd dx dy ω fun r => q r ω
def liftA (K : PySem.W.Frag) (rd : RD1) : List V → Hp → VK → Prop := fun xs H Q => ∃ J ω ds q, Rw K J H ω ∧ RpAll K J xs ds ∧ CovQ K J H ω q Q ∧ rd ds ω fun r => q r ω
def lift3 (K : PySem.W.Frag) (rd : PyData → Option Int → Option Int → Wd → (PyData → Prop) → Prop) : V → Option Int → Option Int → Hp → VK → Prop := fun x lo hi H Q =>
  ∃ J ω dx q, Rw K J H ω ∧ Rp K J x dx ∧ CovQ K J H ω q Q ∧ rd dx lo hi ω fun r => q r ω
section
variable {K : PySem.W.Frag} {J H : Hp} {ω : Wd} {q : DQ} {Q : VK} {v : V} {d : PyData} {vs : List V} {ds : List PyData}
theorem CovQ.now (c : CovQ K J H ω q Q) (w : Rw K J H ω) (z : q d ω) (r : Rp K J v d) : Q v H := c d ω v J H z Grow.refl w r
theorem CovQ.newL (c : CovQ K J H ω q Q) (w : Rw K J H ω) (z : q (.list ds) ω) (r : RpAll K J vs ds) {p : Addr} (hp : H p = none) : Q (.ref p) (upd H p (.lst vs)) :=
  c _ ω _ _ _ z (Grow.frz w hp _) (w.frz hp _) (.lst upd_same (rpAll_mono (same_new (w.jh.free hp) _) _ _ r))
theorem CovQ.newT (c : CovQ K J H ω q Q) (w : Rw K J H ω) (z : q (.tuple ds) ω) (r : RpAll K J vs ds) {p : Addr} (hp : H p = none) : Q (.ref p) (upd H p (.tup vs)) :=
  c _ ω _ _ _ z (Grow.frz w hp _) (w.frz hp _) (.tup (SqT.of upd_same) (rpAll_mono (same_new (w.jh.free hp) _) _ _ r))
end
def addD : RD2 := fun x y ω Q => match rsv ω x, rsv ω y with
  | .int i, .int j => Q (.int (i + j))
  | .str a, .str b => a.length + b.length ≤ sizeLine ∧ Q (.str (a ++ b))
  | .list xs, .list ys => xs.length + ys.length ≤ sizeLine ∧ Q (.list (xs ++ ys))
  | .tuple xs, .tuple ys => xs.length + ys.length ≤ sizeLine ∧ Q (.tuple (xs ++ ys))
  | _, _ => False
def intD (P : Int → Int → Prop) (f : Int → Int → PyData) : RD2 := fun x y _ Q => match x, y with
  | .int i, .int j => P i j ∧ Q (f i j)
  | _, _ => False
def eqD : RD2 := fun x y ω Q => match x, y with
  | .str a, .str b => Q (.bool (decide (a = b)))
  | .int a, .int b => Q (.bool (decide (a = b)))
  | x, y => ∃ d e, Full ω x d ∧ Full ω y e ∧ SeqAt.shaped d = true ∧ SeqAt.shaped e = true ∧ Q (.bool (PyData.eqv d e))
def neD : RD2 := fun x y ω Q => match x, y with
  | .str a, .str b => Q (.bool (!decide (a = b)))
  | .int a, .int b => Q (.bool (!decide (a = b)))
  | x, y => ∃ d e, Full ω x d ∧ Full ω y e ∧ SeqAt.shaped d = true ∧ SeqAt.shaped e = true ∧ Q (.bool (!PyData.eqv d e))
def isNn : PyData → Bool
  | .none => true
  | _ => false
def isND : RD2 := fun x y _ Q => y = .none ∧ Q (.bool (isNn x))
def notND : RD2 := fun x y _ Q => y = .none ∧ Q (.bool (!isNn x))
def ixD : RD2 := fun x y ω Q => match rsv ω x, y with
  | .list xs, .int i => ∃ d, atI xs i = some d ∧ Q d
  | .tuple xs, .int i => ∃ d, atI xs i = some d ∧ Q d
  | .str z, .int i => z.length ≤ sizeLine ∧ ∃ c, atI z.cps.toList i = some c ∧ Q (.str ⟨#[c]⟩)
  | _, _ => False
def cutD {α : Type} (xs : List α) (lo hi : Option Int) : List α := (xs.drop (HT.sIx xs.length 0 lo)).take (HT.sIx xs.length xs.length hi - HT.sIx xs.length 0 lo)
def slD : PyData → Option Int → Option Int → Wd → (PyData → Prop) → Prop := fun x lo hi ω Q => match rsv ω x with
  | .list xs => Q (.list (cutD xs lo hi))
  | .tuple xs => Q (.tuple (cutD xs lo hi))
  | .str z => z.length ≤ sizeLine ∧ Q (.str (cutS z lo hi))
  | _ => False
def lenD : RD1 := fun xs ω Q => match xs with
  | [x] => match rsv ω x with
    | .list ys => Q (.int ys.length)
    | .tuple ys => Q (.int ys.length)
    | .str z => z.length ≤ sizeLine ∧ Q (.int z.length)
    | .dict [(.int _, .list ys)] => Q (.int ys.length)
    | _ => False
  | _ => False
def reprD : RD1 := fun xs ω Q => match xs with
  | [x] => ∃ d, Full ω x d ∧ Ok d ∧ Q (.str d.shown)
  | _ => False
def listD : RD1 := fun xs ω Q => match xs with
  | [x] => match rsv ω x with
    | .list ys => Q (.list ys)
    | .tuple ys => Q (.list ys)
    | .str z => z.length ≤ sizeLine ∧ Q (.list (z.cps.toList.map fun c => .str ⟨#[c]⟩))
    | _ => False
  | _ => False
def tupleD : RD1 := fun xs ω Q => match xs with
  | [x] => match rsv ω x with
    | .list ys => Q (.tuple ys)
    | .tuple ys => Q (.tuple ys)
    | _ => False
  | _ => False
def sumD : RD1 := fun xs ω Q => ∃ (x : PyData) (ns : List Int), xs = [x] ∧ rsv ω x = .list (ns.map PyData.int) ∧ Q (.int ns.sum)
def allD : RD1 := fun xs ω Q => ∃ (x : PyData) (bs : List Bool), xs = [x] ∧ rsv ω x = .list (bs.map PyData.bool) ∧ Q (.bool (bs.all id))
def anyD : RD1 := fun xs ω Q => ∃ (x : PyData) (bs : List Bool), xs = [x] ∧ rsv ω x = .list (bs.map PyData.bool) ∧ Q (.bool (bs.any id))
theorem rpAll_cut {K : PySem.W.Frag} {J : Hp} {vs : List V} {ds : List PyData} (h : RpAll K J vs ds) (lo hi : Option Int) : RpAll K J (cutV vs lo hi) (cutD ds lo hi) := by
  unfold cutV cutD
  rw [h.length]
  exact RpAll.take _ (RpAll.drop _ h)
theorem atI_rp {K : PySem.W.Frag} {J : Hp} {vs : List V} {ds : List PyData} {i : Int} {d : PyData} (h : RpAll K J vs ds) (e : atI ds i = some d) : ∃ v, atI vs i = some v ∧ Rp K J v d := by
  unfold atI at e ⊢
  rw [h.length]
  cases q : ixN ds.length i with
  | none => rw [q] at e; cases e
  | some j =>
    rw [q] at e
    exact h.getD e
theorem rpAll_ints {K : PySem.W.Frag} {J : Hp} : ∀ {ns : List Int} {vs : List V}, RpAll K J vs (ns.map PyData.int) → vs = ns.map V.int
  | [], _, h => by cases h; rfl
  | n :: ns, _, h => by
    cases h with
    | cons h1 h2 => cases h1; rw [rpAll_ints h2]; rfl
theorem rpAll_bls {K : PySem.W.Frag} {J : Hp} : ∀ {ns : List Bool} {vs : List V}, RpAll K J vs (ns.map PyData.bool) → vs = ns.map V.bl
  | [], _, h => by cases h; rfl
  | n :: ns, _, h => by
    cases h with
    | cons h1 h2 => cases h1; rw [rpAll_bls h2]; rfl
section
variable {X : Cx} {K : PySem.W.Frag}
theorem do_add (hK : X.K = K) : OpR X (binaryOp .Add) (lift2 K addD) := by
  subst hK
  intro pins s σ H x y v u Q I rx ry h
  obtain ⟨J, ω, dx, dy, q, w, hx, hy, c, z⟩ := h
  unfold addD at z
  split at z
  · rename_i i j ex ey
    obtain rfl := (rp_flat (ω := ω) hx).2.1 _ ex
    obtain rfl := (rp_flat (ω := ω) hy).2.1 _ ey
    exact op_add pins s σ H _ _ v u Q I rx ry ⟨i, j, rfl, rfl, c.now w z (.int _)⟩
  · rename_i i j ex ey
    obtain rfl := (rp_flat (ω := ω) hx).1 _ ex
    obtain rfl := (rp_flat (ω := ω) hy).1 _ ey
    exact op_add_str pins s σ H _ _ v u Q I rx ry ⟨i, j, rfl, rfl, z.1, c.now w z.2 (.str _)⟩
  · rename_i xs ys ex ey
    obtain ⟨a, vs, rfl, ha, ra⟩ := rp_list w hx ex
    obtain ⟨b, ws, rfl, hb, rb⟩ := rp_list w hy ey
    exact op_cat pins s σ H _ _ v u Q I rx ry ⟨a, b, vs, ws, rfl, rfl, ha, hb, by rw [ra.length, rb.length]; exact z.1, fun p hp => c.newL w z.2 (ra.append rb) hp⟩
  · rename_i xs ys ex ey
    obtain ⟨a, vs, rfl, ha, ra, rx2⟩ := rp_tup w hx ex
    obtain ⟨b, ws, rfl, hb, rb, ry2⟩ := rp_tup w hy ey
    refine op_catA pins s σ H _ _ v u Q I rx ry ⟨a, b, vs, ws, rfl, rfl, ha, hb, by rw [ra.length, rb.length]; exact z.1, fun e => ?_, fun _ e => ?_, fun _ _ p hp => c.newT w z.2 (ra.append rb) hp⟩
    · subst e; cases ra; exact c.now w z.2 ry2
    · subst e; cases rb; rw [List.append_nil] at z; exact c.now w z.2 rx2
  · exact False.elim z
theorem do_int {f : Value → Value → Sem Value} {C : Int → Int → Prop} {g : Int → Int → V} {P : Int → Int → Prop} {r : Int → Int → PyData} (o : OpR X f (rI C g)) (hK : X.K = K) (hc : ∀ i j, P i j → C i j) (hr : ∀ J i j, Rp K J (g i j) (r i j)) : OpR X f (lift2 K (intD P r)) := by
  intro pins s σ H x y v u Q I rx ry h
  obtain ⟨J, ω, dx, dy, q, w, hx, hy, c, z⟩ := h
  unfold intD at z
  split at z
  · cases hx; cases hy
    exact o pins s σ H _ _ v u Q I rx ry ⟨_, _, rfl, rfl, hc _ _ z.1, c.now w z.2 (hr _ _ _)⟩
  · exact False.elim z
theorem do_int0 {f : Value → Value → Sem Value} {g : Int → Int → V} {r : Int → Int → PyData} (o : OpR X f (rI0 g)) (hK : X.K = K) (hr : ∀ J i j, Rp K J (g i j) (r i j)) : OpR X f (lift2 K (intD (fun _ _ => True) r)) := by
  intro pins s σ H x y v u Q I rx ry h
  obtain ⟨J, ω, dx, dy, q, w, hx, hy, c, z⟩ := h
  unfold intD at z
  split at z
  · cases hx; cases hy
    exact o pins s σ H _ _ v u Q I rx ry ⟨_, _, rfl, rfl, c.now w z.2 (hr _ _ _)⟩
  · exact False.elim z
theorem do_sub (hK : X.K = K) : OpR X (binaryOp .Sub) (lift2 K (intD (fun _ _ => True) fun i j => .int (i - j))) := do_int0 op_sub hK fun _ _ _ => .int _
theorem do_mul (hK : X.K = K) : OpR X (binaryOp .Mult) (lift2 K (intD CMul fun i j => .int (i * j))) := do_int op_mul hK (fun _ _ h => h) fun _ _ _ => .int _
theorem do_mod (hK : X.K = K) : OpR X (binaryOp .Mod) (lift2 K (intD (fun _ j => 0 < j) fun i j => .int (i % j))) := do_int op_mod hK (fun _ _ h => h) fun _ _ _ => .int _
theorem do_fdiv (hK : X.K = K) : OpR X (binaryOp .FloorDiv) (lift2 K (intD CDiv fun i j => .int (i / j))) := do_int op_fdiv hK (fun _ _ h => h) fun _ _ _ => .int _
theorem do_lt (hK : X.K = K) : OpR X (compareOp .Lt) (lift2 K (intD (fun _ _ => True) fun i j => .bool (decide (i < j)))) := do_int0 op_lt hK fun _ _ _ => .bl _
theorem do_le (hK : X.K = K) : OpR X (compareOp .LtE) (lift2 K (intD (fun _ _ => True) fun i j => .bool (decide (i ≤ j)))) := do_int0 op_le hK fun _ _ _ => .bl _
theorem do_gt (hK : X.K = K) : OpR X (compareOp .Gt) (lift2 K (intD (fun _ _ => True) fun i j => .bool (decide (j < i)))) := do_int0 op_gt hK fun _ _ _ => .bl _
theorem do_ge (hK : X.K = K) : OpR X (compareOp .GtE) (lift2 K (intD (fun _ _ => True) fun i j => .bool (decide (j ≤ i)))) := do_int0 op_ge hK fun _ _ _ => .bl _
theorem shaped_lay {d : PyData} (h : SeqAt.shaped d = true) : d.canLay0 = true := by
  unfold SeqAt.shaped at h
  exact (Bool.and_eq_true _ _ ▸ h).1
theorem do_eq (hK : X.K = K) (hu : X.A.units + 64 < cLine) : OpR X (compareOp .Eq) (lift2 K eqD) := by
  subst hK
  intro pins s σ H x y v u Q I rx ry h
  obtain ⟨J, ω, dx, dy, q, w, hx, hy, c, z⟩ := h
  unfold eqD at z
  split at z
  · cases hx; cases hy
    refine op_eq pins s σ H _ _ v u Q I rx ry ⟨rfl, ?_⟩
    rename_i a b
    rw [show decide (V.str a = V.str b) = decide (a = b) from decide_eq_decide.mpr ⟨fun h => V.str.inj h, fun h => by rw [h]⟩]
    exact c.now w z (.bl _)
  · cases hx; cases hy
    refine op_eq pins s σ H _ _ v u Q I rx ry ⟨rfl, ?_⟩
    rename_i a b
    rw [show decide (V.int a = V.int b) = decide (a = b) from decide_eq_decide.mpr ⟨fun h => V.int.inj h, fun h => by rw [h]⟩]
    exact c.now w z (.bl _)
  · obtain ⟨d1, d2, f1, f2, z1, z2, z⟩ := z
    exact op_eqD hu pins s σ H _ _ v u Q I rx ry ⟨_, _, f1.dp w hx (shaped_lay z1), f2.dp w hy (shaped_lay z2), z1, z2, c.now w z (.bl _)⟩
theorem do_ne (hK : X.K = K) (hu : X.A.units + 64 < cLine) : OpR X (compareOp .NotEq) (lift2 K neD) := by
  subst hK
  intro pins s σ H x y v u Q I rx ry h
  obtain ⟨J, ω, dx, dy, q, w, hx, hy, c, z⟩ := h
  unfold neD at z
  split at z
  · cases hx; cases hy
    refine op_ne pins s σ H _ _ v u Q I rx ry ⟨rfl, ?_⟩
    rename_i a b
    rw [show decide (V.str a = V.str b) = decide (a = b) from decide_eq_decide.mpr ⟨fun h => V.str.inj h, fun h => by rw [h]⟩]
    exact c.now w z (.bl _)
  · cases hx; cases hy
    refine op_ne pins s σ H _ _ v u Q I rx ry ⟨rfl, ?_⟩
    rename_i a b
    rw [show decide (V.int a = V.int b) = decide (a = b) from decide_eq_decide.mpr ⟨fun h => V.int.inj h, fun h => by rw [h]⟩]
    exact c.now w z (.bl _)
  · obtain ⟨d1, d2, f1, f2, z1, z2, z⟩ := z
    exact op_neD hu pins s σ H _ _ v u Q I rx ry ⟨_, _, f1.dp w hx (shaped_lay z1), f2.dp w hy (shaped_lay z2), z1, z2, c.now w z (.bl _)⟩
theorem isNn_eq {J : Hp} {v : V} {d : PyData} (h : Rp K J v d) : decide (v = .non) = isNn d := by
  cases h <;> first | rfl | exact decide_eq_false (fun e => nomatch e)
theorem do_is (hK : X.K = K) : OpR X (compareOp .Is) (lift2 K isND) := by
  intro pins s σ H x y v u Q I rx ry h
  obtain ⟨J, ω, dx, dy, q, w, hx, hy, c, rfl, z⟩ := h
  cases hy
  exact op_isN pins s σ H _ _ v u Q I rx ry ⟨rfl, by rw [isNn_eq hx]; exact c.now w z (.bl _)⟩
theorem do_isnot (hK : X.K = K) : OpR X (compareOp .IsNot) (lift2 K notND) := by
  intro pins s σ H x y v u Q I rx ry h
  obtain ⟨J, ω, dx, dy, q, w, hx, hy, c, rfl, z⟩ := h
  cases hy
  exact op_notN pins s σ H _ _ v u Q I rx ry ⟨rfl, by rw [isNn_eq hx]; exact c.now w z (.bl _)⟩
theorem do_ix (hK : X.K = K) : IxR X (lift2 K ixD) := by
  subst hK
  intro value slice pins s σ H x y v u Q I rx ry h hs
  obtain ⟨J, ω, dx, dy, q, w, hx, hy, c, z⟩ := h
  unfold ixD at z
  split at z
  · rename_i xs i ex
    cases hy
    obtain ⟨d, z1, z⟩ := z
    obtain ⟨a, vs, rfl, ha, ra⟩ := rp_list w hx ex
    obtain ⟨y, e1, e2⟩ := atI_rp ra z1
    exact ix_list value slice pins s σ H _ _ v u Q I rx ry ⟨a, vs, i, y, rfl, rfl, SqL.of ha, e1, c.now w z e2⟩ hs
  · rename_i xs i ex
    cases hy
    obtain ⟨d, z1, z⟩ := z
    obtain ⟨a, vs, rfl, ha, ra, _⟩ := rp_tup w hx ex
    obtain ⟨y, e1, e2⟩ := atI_rp ra z1
    exact ix_tup value slice pins s σ H _ _ v u Q I rx ry ⟨a, vs, i, y, rfl, rfl, ha, e1, c.now w z e2⟩ hs
  · rename_i zz i ex
    cases hy
    obtain ⟨z0, cc, z1, z⟩ := z
    obtain rfl := (rp_flat (ω := ω) hx).1 _ ex
    exact ix_str value slice pins s σ H _ _ v u Q I rx ry ⟨zz, i, cc, rfl, rfl, z0, z1, c.now w z (.str _)⟩ hs
  · exact False.elim z
theorem do_sl (hK : X.K = K) : SlR X (lift3 K slD) := by
  subst hK
  intro pins s σ H x v vl vu lo hi sl Q I rx hs pl pu h
  obtain ⟨J, ω, dx, q, w, hx, c, z⟩ := h
  unfold slD at z
  split at z
  · rename_i xs ex
    obtain ⟨a, vs, rfl, ha, ra⟩ := rp_list w hx ex
    exact sl_list pins s σ H _ v vl vu lo hi sl Q I rx hs pl pu ⟨a, vs, rfl, SqL.of ha, fun p hp => c.newL w z (rpAll_cut ra lo hi) hp⟩
  · rename_i xs ex
    obtain ⟨a, vs, rfl, ha, ra, rt⟩ := rp_tup w hx ex
    refine sl_tupA pins s σ H _ v vl vu lo hi sl Q I rx hs pl pu ⟨a, vs, rfl, ha, fun e => ?_, fun _ p hp => c.newT w z (rpAll_cut ra lo hi) hp⟩
    have e1 : cutD xs lo hi = xs := by
      unfold cutD
      rw [← ra.length, e.1, e.2, List.drop_zero, Nat.sub_zero, ra.length, List.take_length]
    rw [e1] at z
    exact c.now w z rt
  · rename_i zz ex
    obtain rfl := (rp_flat (ω := ω) hx).1 _ ex
    exact sl_str pins s σ H _ v vl vu lo hi sl Q I rx hs pl pu ⟨zz, rfl, z.1, c.now w z.2 (.str _)⟩
  · exact False.elim z
theorem dc_len (hK : X.K = K) : CallR X (.builtin "len") (liftA K lenD) := by
  subst hK
  intro pins s σ H xs us Q I rel h
  obtain ⟨J, ω, ds, q, w, hx, c, z⟩ := h
  unfold lenD at z
  split at z
  · rename_i x
    cases hx with
    | cons hx h0 =>
    cases h0
    split at z
    · rename_i ys ex
      obtain ⟨a, vs, rfl, ha, ra⟩ := rp_list w hx ex
      exact call_len_seq pins s σ H _ us Q I rel ⟨a, vs, rfl, .inl (SqL.of ha), by rw [ra.length]; exact c.now w z (.int _)⟩
    · rename_i ys ex
      obtain ⟨a, vs, rfl, ha, ra, _⟩ := rp_tup w hx ex
      exact call_len_seq pins s σ H _ us Q I rel ⟨a, vs, rfl, .inr ha, by rw [ra.length]; exact c.now w z (.int _)⟩
    · rename_i zz ex
      obtain rfl := (rp_flat (ω := ω) hx).1 _ ex
      exact call_len_str pins s σ H _ us Q I rel ⟨zz, rfl, z.1, c.now w z.2 (.int _)⟩
    · rename_i i0 ys ex
      have key : ∀ (d : PyData) (v : V), Rp X.K J v d → rsv ω d = .dict [(.int i0, .list ys)] → ∃ (a : Addr) (ns : List Int), v = .ref a ∧ SqL X.K J a (ns.map V.int) ∧ ys = ns.map PyData.int := by
        intro d v h e
        cases h with
        | ref a =>
          have e2 : (match ω (((a : Nat) : Int).toNat) with | some (.lst ds) => PyData.list ds | _ => .dict [(.int ((a : Nat) : Int), .none)]) = _ := e
          split at e2 <;> cases e2
        | scr hs => cases e; exact ⟨_, _, rfl, hs, rfl⟩
        | pub _ => cases e
        | dic _ _ => cases e
        | obj _ _ => cases e
        | non => cases e
        | bl _ => cases e
        | int _ => cases e
        | str _ => cases e
        | lst _ _ => cases e
        | tup _ _ => cases e
      obtain ⟨a, ns, rfl, hs, rfl⟩ := key _ _ hx ex
      refine call_len_seq pins s σ H _ us Q I rel ⟨a, _, rfl, .inl (w.jh.seq hs), ?_⟩
      rw [List.length_map] at z ⊢
      exact c.now w z (.int _)
    · exact False.elim z
  · exact False.elim z
theorem dc_repr (hK : X.K = K) (gd : X.A.guards = some []) (hu : X.A.units + 64 < cLine) : CallR X (.builtin "repr") (liftA K reprD) := by
  subst hK
  intro pins s σ H xs us Q I rel h
  obtain ⟨J, ω, ds, q, w, hx, c, z⟩ := h
  unfold reprD at z
  split at z
  · cases hx with
    | cons hx h0 =>
    cases h0
    obtain ⟨d, f, ok, z⟩ := z
    exact call_repr gd hu pins s σ H _ us Q I rel ⟨_, _, rfl, f.dp w hx (fine_lay _ ok.1), ok, c.now w z (.str _)⟩
  · exact False.elim z
theorem dc_list (hK : X.K = K) (hc : X.calm = true) : CallR X (.type "list") (liftA K listD) := by
  subst hK
  intro pins s σ H xs us Q I rel h
  obtain ⟨J, ω, ds, q, w, hx, c, z⟩ := h
  unfold listD at z
  split at z
  · cases hx with
    | cons hx h0 =>
    cases h0
    split at z
    · rename_i ys ex
      obtain ⟨a, vs, rfl, ha, ra⟩ := rp_list w hx ex
      exact call_list_of pins s σ H _ us Q I rel ⟨a, vs, rfl, .inl (SqL.of ha), fun p hp => c.newL w z ra hp⟩
    · rename_i ys ex
      obtain ⟨a, vs, rfl, ha, ra, _⟩ := rp_tup w hx ex
      exact call_list_of pins s σ H _ us Q I rel ⟨a, vs, rfl, .inr ha, fun p hp => c.newL w z ra hp⟩
    · rename_i zz ex
      obtain rfl := (rp_flat (ω := ω) hx).1 _ ex
      exact call_listS hc pins s σ H _ us Q I rel ⟨zz, rfl, z.1, fun p hp => c.newL w z.2 (rpAll_sgn zz) hp⟩
    · exact False.elim z
  · exact False.elim z
theorem dc_tuple (hK : X.K = K) : CallR X (.type "tuple") (liftA K tupleD) := by
  subst hK
  intro pins s σ H xs us Q I rel h
  obtain ⟨J, ω, ds, q, w, hx, c, z⟩ := h
  unfold tupleD at z
  split at z
  · cases hx with
    | cons hx h0 =>
    cases h0
    split at z
    · rename_i ys ex
      obtain ⟨a, vs, rfl, ha, ra⟩ := rp_list w hx ex
      exact call_tuple_of pins s σ H _ us Q I rel ⟨a, vs, rfl, .inl ⟨SqL.of ha, fun p hp => c.newT w z ra hp⟩⟩
    · rename_i ys ex
      obtain ⟨a, vs, rfl, ha, ra, rt⟩ := rp_tup w hx ex
      exact call_tuple_of pins s σ H _ us Q I rel ⟨a, vs, rfl, .inr ⟨ha, c.now w z rt⟩⟩
    · exact False.elim z
  · exact False.elim z
theorem dc_sum (hK : X.K = K) (hc : X.calm = true) : CallR X (.builtin "sum") (liftA K sumD) := by
  subst hK
  intro pins s σ H xs us Q I rel h
  obtain ⟨J, ω, ds, q, w, hx, c, x, ns, rfl, ex, z⟩ := h
  cases hx with
  | cons hx h0 =>
  cases h0
  obtain ⟨a, vs, rfl, ha, ra⟩ := rp_list w hx ex
  rw [rpAll_ints ra] at ha
  exact cr_sum hc pins s σ H _ us Q I rel ⟨a, ns, rfl, SqL.of ha, c.now w z (.int _)⟩
theorem dc_all (hK : X.K = K) (hc : X.calm = true) : CallR X (.builtin "all") (liftA K allD) := by
  subst hK
  intro pins s σ H xs us Q I rel h
  obtain ⟨J, ω, ds, q, w, hx, c, x, ns, rfl, ex, z⟩ := h
  cases hx with
  | cons hx h0 =>
  cases h0
  obtain ⟨a, vs, rfl, ha, ra⟩ := rp_list w hx ex
  rw [rpAll_bls ra] at ha
  exact cr_all hc pins s σ H _ us Q I rel ⟨a, ns, rfl, SqL.of ha, c.now w z (.bl _)⟩
theorem dc_any (hK : X.K = K) (hc : X.calm = true) : CallR X (.builtin "any") (liftA K anyD) := by
  subst hK
  intro pins s σ H xs us Q I rel h
  obtain ⟨J, ω, ds, q, w, hx, c, x, ns, rfl, ex, z⟩ := h
  cases hx with
  | cons hx h0 =>
  cases h0
  obtain ⟨a, vs, rfl, ha, ra⟩ := rp_list w hx ex
  rw [rpAll_bls ra] at ha
  exact cr_any hc pins s σ H _ us Q I rel ⟨a, ns, rfl, SqL.of ha, c.now w z (.bl _)⟩
end
end Tx

namespace Tx
open PySem PySem.Spec PyProof.Rows L2
/-! ## Rules over data: expressions -/
def dVar (i : Nat) (ρ : DS) (ω : Wd) (q : DQ) (_ : DXK) : Prop := match ρ[i]? with
  | some (some d) => q d ω
  | _ => False
def dC (d : PyData) (_ : DS) (ω : Wd) (q : DQ) (_ : DXK) : Prop := q d ω
def dOp (rd : RD2) (ta tb : DTE) (ρ : DS) (ω : Wd) (q : DQ) (x : DXK) : Prop := ta ρ ω (fun a ω1 => tb ρ ω1 (fun b ω2 => rd a b ω2 fun r => q r ω2) x) x
def dTest (t : DTE) (ρ : DS) (ω : Wd) (q : Bool → Wd → Prop) (x : DXK) : Prop := t ρ ω (fun r ω1 => match r with
  | .bool b => q b ω1
  | _ => False) x
def dChain (rd rd' : RD2) (ta tb tc : DTE) (ρ : DS) (ω : Wd) (q : DQ) (x : DXK) : Prop := ta ρ ω (fun a ω1 => tb ρ ω1 (fun b ω2 => rd a b ω2 fun r => match r with
  | .bool k => if k = true then tc ρ ω2 (fun c ω3 => rd' b c ω3 fun r' => q r' ω3) x else q (.bool false) ω2
  | _ => False) x) x
def dAnd (t u : DTT) (ρ : DS) (ω : Wd) (q : Bool → Wd → Prop) (x : DXK) : Prop := t ρ ω (fun b ω1 => if b = true then u ρ ω1 q x else q false ω1) x
def dOr (t u : DTT) (ρ : DS) (ω : Wd) (q : Bool → Wd → Prop) (x : DXK) : Prop := t ρ ω (fun b ω1 => if b = true then q true ω1 else u ρ ω1 q x) x
def dNot (t : DTT) (ρ : DS) (ω : Wd) (q : Bool → Wd → Prop) (x : DXK) : Prop := t ρ ω (fun b ω1 => q (!b) ω1) x
def dAndV (ta tb : DTE) (ρ : DS) (ω : Wd) (q : DQ) (x : DXK) : Prop := ta ρ ω (fun a ω1 => match a with
  | .bool b => if b = true then tb ρ ω1 q x else q (.bool false) ω1
  | _ => False) x
def dOrV (ta tb : DTE) (ρ : DS) (ω : Wd) (q : DQ) (x : DXK) : Prop := ta ρ ω (fun a ω1 => match a with
  | .bool b => if b = true then q (.bool true) ω1 else tb ρ ω1 q x
  | _ => False) x
def dNotV (ta : DTE) (ρ : DS) (ω : Wd) (q : DQ) (x : DXK) : Prop := ta ρ ω (fun a ω1 => match a with
  | .bool b => q (.bool (!b)) ω1
  | _ => False) x
def dNeg (ta : DTE) (ρ : DS) (ω : Wd) (q : DQ) (x : DXK) : Prop := ta ρ ω (fun r ω1 => match r with
  | .int i => q (.int (-i)) ω1
  | _ => False) x
def dIf (t : DTT) (ta tb : DTE) (ρ : DS) (ω : Wd) (q : DQ) (x : DXK) : Prop := t ρ ω (fun b ω1 => if b = true then ta ρ ω1 q x else tb ρ ω1 q x) x
def dNil (_ : DS) (ω : Wd) (q : List PyData → Wd → Prop) (_ : DXK) : Prop := q [] ω
def dCons (te : DTE) (ta : DTA) (ρ : DS) (ω : Wd) (q : List PyData → Wd → Prop) (x : DXK) : Prop := te ρ ω (fun a ω1 => ta ρ ω1 (fun as ω2 => q (a :: as) ω2) x) x
def dLst (ta : DTA) (ρ : DS) (ω : Wd) (q : DQ) (x : DXK) : Prop := ta ρ ω (fun as ω1 => as.length ≤ sizeLine ∧ q (.list as) ω1) x
def dTup (ta : DTA) (ρ : DS) (ω : Wd) (q : DQ) (x : DXK) : Prop := ta ρ ω (fun as ω1 => as.length ≤ sizeLine ∧ q (.tuple as) ω1) x
/-- [..], a list of one's own -/
def dLstO (ta : DTA) (ρ : DS) (ω : Wd) (q : DQ) (x : DXK) : Prop := ta ρ ω (fun as ω1 => as.length ≤ sizeLine ∧ ∀ a, ω1 a = none → q (refD a) (updW ω1 a (.lst as))) x
def dCB (rd : RD1) (ta : DTA) (ρ : DS) (ω : Wd) (q : DQ) (x : DXK) : Prop := ta ρ ω (fun as ω1 => rd as ω1 fun r => q r ω1) x
def dSl (te : DTE) (lo hi : Option DTE) (ρ : DS) (ω : Wd) (q : DQ) (x : DXK) : Prop := te ρ ω (fun a ω1 =>
  (match lo with
    | none => fun (k : Option Int → Wd → Prop) => k none ω1
    | some tl => fun k => tl ρ ω1 (fun l ω2 => match l with
      | .int i => k (some i) ω2
      | _ => False) x) fun l ω2 =>
  (match hi with
    | none => fun (k : Option Int → Wd → Prop) => k none ω2
    | some tl => fun k => tl ρ ω2 (fun l ω3 => match l with
      | .int i => k (some i) ω3
      | _ => False) x) fun h ω3 => slD a l h ω3 fun r => q r ω3) x
/-- isinstance(e, T) -/
def dIsi (f : PyData → Bool) (te : DTE) (ρ : DS) (ω : Wd) (q : DQ) (x : DXK) : Prop := te ρ ω (fun a ω1 => (match rsv ω1 a with
  | .dict _ => False
  | _ => True) ∧ q (.bool (f (rsv ω1 a))) ω1) x
section
variable {W : WX} {X : Cx} {K : PySem.W.Frag} {e a b c : Expr} {es : List Expr} {ta tb tc : DTE} {tA : DTA} {pos : Pos}
theorem Sl.var {J : Hp} {σ : L2.St} {ρ : DS} {i : Nat} {q : PyData → Prop} (s : Sl K J σ ρ) (h : match ρ[i]? with
  | some (some d) => q d
  | _ => False) : ∃ v d, σ[i]? = some (some v) ∧ Rp K J v d ∧ q d := by
  split at h
  · rename_i d e
    obtain ⟨v, h1, h2⟩ := s.2 i d e
    exact ⟨v, d, h1, h2, h⟩
  · exact False.elim h
theorem de_pe {t : TE} {td : DTE} (h : PE X e t) (k : ∀ σ H J ω ρ q x Q, Rw K J H ω → Sl K J σ ρ → CovQ K J H ω q Q → CovX K J H ω x (fun c d H => W c d σ H) → td ρ ω q x → t σ H Q) : DE W X K e td := ⟨_, h, k⟩
theorem de_var {i : Nat} (h : PE X e (tVar i)) : DE W X K e (dVar i) := ⟨_, h, fun σ H J ω ρ q x Q w s cq cx z => by
  obtain ⟨v, d, h1, h2, z⟩ := s.var (q := fun d => q d ω) z
  exact ⟨v, h1, cq.now w z h2⟩⟩
theorem de_c {v : V} {d : PyData} (h : PE X e (tC v)) (r : ∀ J, Rp K J v d) : DE W X K e (dC d) := ⟨_, h, fun σ H J ω ρ q x Q w s cq cx z => cq.now w z (r J)⟩
theorem de_non : DE W X K (.Constant .none j pos) (dC .none) := de_c pe_non fun _ => .non
theorem de_bl {bb : Bool} : DE W X K (.Constant (.bool bb) j pos) (dC (.bool bb)) := de_c pe_bl fun _ => .bl _
theorem de_int {i : Int} : DE W X K (.Constant (.int i) j pos) (dC (.int i)) := de_c pe_int fun _ => .int _
theorem de_str {z : Str} : DE W X K (.Constant (.str z) j pos) (dC (.str z)) := de_c pe_str fun _ => .str _
/-- two operands -/
theorem dOp_run {ra : TE} {rb : TE} {rd : RD2} {σ : L2.St} {H J : Hp} {ω : Wd} {ρ : DS} {q : DQ} {x : DXK} {Q : VK}
    (ka : ∀ σ H J ω ρ q x Q, Rw K J H ω → Sl K J σ ρ → CovQ K J H ω q Q → CovX K J H ω x (fun c d H => W c d σ H) → ta ρ ω q x → ra σ H Q) (kb : ∀ σ H J ω ρ q x Q, Rw K J H ω → Sl K J σ ρ → CovQ K J H ω q Q → CovX K J H ω x (fun c d H => W c d σ H) → tb ρ ω q x → rb σ H Q)
    (w : Rw K J H ω) (s : Sl K J σ ρ) (cq : CovQ K J H ω q Q) (cx : CovX K J H ω x (fun c d H => W c d σ H)) (z : dOp rd ta tb ρ ω q x) : tOp (lift2 K rd) ra rb σ H Q := by
  refine ka σ H J ω ρ _ x _ w s (fun a ω1 v J1 H1 z1 g1 w1 ra => ?_) cx z
  refine kb σ H1 J1 ω1 ρ _ x _ w1 (s.mono g1.jj) (fun b ω2 u J2 H2 z2 g2 w2 rb => ?_) (cx.step g1) z1
  exact ⟨J2, ω2, a, b, q, w2, rp_mono g2.jj _ _ ra, rb, (cq.step g1).step g2, z2⟩
theorem de_op {op : Operator} {rd : RD2} (ho : OpR X (binaryOp op) (lift2 K rd)) (ha : DE W X K a ta) (hb : DE W X K b tb) : DE W X K (.BinOp a op b pos) (dOp rd ta tb) := by
  obtain ⟨ra, pa, ka⟩ := ha
  obtain ⟨rb, pb, kb⟩ := hb
  exact ⟨_, pe_op ho pa pb, fun σ H J ω ρ q x Q w s cq cx z => dOp_run ka kb w s cq cx z⟩
theorem de_cmp {op : CmpOp} {rd : RD2} (ho : OpR X (compareOp op) (lift2 K rd)) (ha : DE W X K a ta) (hb : DE W X K b tb) (hm : behindInMarks op b = false) : DE W X K (.Compare a [op] [b] pos) (dOp rd ta tb) := by
  obtain ⟨ra, pa, ka⟩ := ha
  obtain ⟨rb, pb, kb⟩ := hb
  exact ⟨_, pe_cmpR ho pa pb hm, fun σ H J ω ρ q x Q w s cq cx z => dOp_run ka kb w s cq cx z⟩
theorem de_ix (hK : X.K = K) (ha : DE W X K a ta) (hb : DE W X K b tb) (hs : PlainIx b) : DE W X K (.Subscript a b pos) (dOp ixD ta tb) := by
  obtain ⟨ra, pa, ka⟩ := ha
  obtain ⟨rb, pb, kb⟩ := hb
  exact ⟨_, pe_ix (do_ix hK) pa pb hs, fun σ H J ω ρ q x Q w s cq cx z => dOp_run ka kb w s cq cx z⟩
theorem covT_test {J H : Hp} {ω : Wd} {q : Bool → Wd → Prop} {Q : Bool → Hp → Prop} (c : CovT K J H ω q Q) : CovQ K J H ω (fun r ω1 => match r with
  | .bool b => q b ω1
  | _ => False) (fun v H => ∃ k, v = .bl k ∧ Q k H) := by
  intro r ω' v J' H' z g w rp
  split at z
  · cases rp; exact ⟨_, rfl, c _ _ _ _ z g w⟩
  · exact False.elim z
theorem dt_cmp {op : CmpOp} {rd : RD2} (ho : OpR X (compareOp op) (lift2 K rd)) (ha : DE W X K a ta) (hb : DE W X K b tb) (hm : behindInMarks op b = false) : DT W X K (.Compare a [op] [b] pos) (dTest (dOp rd ta tb)) := by
  obtain ⟨ra, pa, ka⟩ := ha
  obtain ⟨rb, pb, kb⟩ := hb
  exact ⟨_, pt_cmpR ho pa pb hm, fun σ H J ω ρ q x Q w s cq cx z => dOp_run ka kb w s (covT_test cq) cx z⟩
theorem dt_val (ha : DE W X K a ta) (he : ∀ whole, isTrue a X.env whole = (do let v ← whole; standAt a.pos; holding [v] (truthy v)) := by intro _; rfl) : DT W X K a (dTest ta) := by
  obtain ⟨ra, pa, ka⟩ := ha
  exact ⟨_, pt_val pa he, fun σ H J ω ρ q x Q w s cq cx z => ka σ H J ω ρ _ x _ w s (covT_test cq) cx z⟩
theorem dChain_run {ra rb rc : TE} {rd rd' : RD2} {σ : L2.St} {H J : Hp} {ω : Wd} {ρ : DS} {q : DQ} {x : DXK} {Q : VK}
    (ka : ∀ σ H J ω ρ q x Q, Rw K J H ω → Sl K J σ ρ → CovQ K J H ω q Q → CovX K J H ω x (fun c d H => W c d σ H) → ta ρ ω q x → ra σ H Q) (kb : ∀ σ H J ω ρ q x Q, Rw K J H ω → Sl K J σ ρ → CovQ K J H ω q Q → CovX K J H ω x (fun c d H => W c d σ H) → tb ρ ω q x → rb σ H Q)
    (kc : ∀ σ H J ω ρ q x Q, Rw K J H ω → Sl K J σ ρ → CovQ K J H ω q Q → CovX K J H ω x (fun c d H => W c d σ H) → tc ρ ω q x → rc σ H Q)
    (w : Rw K J H ω) (s : Sl K J σ ρ) (cq : CovQ K J H ω q Q) (cx : CovX K J H ω x (fun c d H => W c d σ H)) (z : dChain rd rd' ta tb tc ρ ω q x) : tChain (lift2 K rd) (lift2 K rd') ra rb rc σ H Q := by
  refine ka σ H J ω ρ _ x _ w s (fun a ω1 v J1 H1 z1 g1 w1 ra => ?_) cx z
  refine kb σ H1 J1 ω1 ρ _ x _ w1 (s.mono g1.jj) (fun b ω2 u J2 H2 z2 g2 w2 rb => ?_) (cx.step g1) z1
  have cq2 := (cq.step g1).step g2
  refine ⟨J2, ω2, a, b, fun r ω' => ω' = ω2 ∧ (match r with
    | .bool k => if k = true then tc ρ ω2 (fun c ω3 => rd' b c ω3 fun r' => q r' ω3) x else q (.bool false) ω2
    | _ => False), w2, rp_mono g2.jj _ _ ra, rb, fun r ω' v3 J3 H3 z3 g3 w3 r3 => ?_, ?_⟩
  · obtain ⟨rfl, z3⟩ := z3
    split at z3
    · cases r3
      rename_i k
      refine ⟨k, rfl, ?_⟩
      cases k with
      | true =>
        refine iteT (kc σ H3 J3 ω' ρ _ x _ w3 ((s.mono g1.jj).mono (g2.jj.trans g3.jj)) (fun cc ω4 u4 J4 H4 z4 g4 w4 r4 => ?_) (((cx.step g1).step g2).step g3) (by simpa using z3))
        exact ⟨J4, ω4, b, cc, q, w4, rp_mono (g3.jj.trans g4.jj) _ _ rb, r4, (cq2.step g3).step g4, z4⟩
      | false => exact iteF (cq2 _ _ _ _ _ (by simpa using z3) g3 w3 (.bl _))
    · exact False.elim z3
  · have : (fun r => (fun (r : PyData) (ω' : Wd) => ω' = ω2 ∧ (match r with
      | .bool k => if k = true then tc ρ ω2 (fun c ω3 => rd' b c ω3 fun r' => q r' ω3) x else q (.bool false) ω2
      | _ => False)) r ω2) = fun (r : PyData) => (match r with
      | .bool k => if k = true then tc ρ ω2 (fun c ω3 => rd' b c ω3 fun r' => q r' ω3) x else q (.bool false) ω2
      | _ => False) := by
      funext r
      exact propext ⟨fun h => h.2, fun h => ⟨rfl, h⟩⟩
    rw [this]
    exact z2
theorem de_chain {op op' : CmpOp} {rd rd' : RD2} (ho : OpR X (compareOp op) (lift2 K rd)) (ho' : OpR X (compareOp op') (lift2 K rd')) (ha : DE W X K a ta) (hb : DE W X K b tb) (hc : DE W X K c tc) (hm : lastMarks [op, op'] [b, c] = false := by with_unfolding_all rfl) :
    DE W X K (.Compare a [op, op'] [b, c] pos) (dChain rd rd' ta tb tc) := by
  obtain ⟨ra, pa, ka⟩ := ha
  obtain ⟨rb, pb, kb⟩ := hb
  obtain ⟨rc, pc, kc⟩ := hc
  exact ⟨_, pe_chain ho ho' pa pb pc hm, fun σ H J ω ρ q x Q w s cq cx z => dChain_run ka kb kc w s cq cx z⟩
theorem dt_chain {op op' : CmpOp} {rd rd' : RD2} (ho : OpR X (compareOp op) (lift2 K rd)) (ho' : OpR X (compareOp op') (lift2 K rd')) (ha : DE W X K a ta) (hb : DE W X K b tb) (hc : DE W X K c tc) (hm : lastMarks [op, op'] [b, c] = false := by with_unfolding_all rfl) :
    DT W X K (.Compare a [op, op'] [b, c] pos) (dTest (dChain rd rd' ta tb tc)) := by
  obtain ⟨ra, pa, ka⟩ := ha
  obtain ⟨rb, pb, kb⟩ := hb
  obtain ⟨rc, pc, kc⟩ := hc
  exact ⟨_, pt_chain ho ho' pa pb pc hm, fun σ H J ω ρ q x Q w s cq cx z => dChain_run ka kb kc w s (covT_test cq) cx z⟩
theorem de_one {op} (h : DE W X K a ta) : DE W X K (.BoolOp op [a] pos) ta := by
  obtain ⟨ra, pa, ka⟩ := h
  exact ⟨_, pe_one pa, ka⟩
theorem de_and {rest : List Expr} (ha : DE W X K a ta) (hb : DE W X K (.BoolOp .And (b :: rest) pos) tb) : DE W X K (.BoolOp .And (a :: b :: rest) pos) (dAndV ta tb) := by
  obtain ⟨ra, pa, ka⟩ := ha
  obtain ⟨rb, pb, kb⟩ := hb
  refine ⟨_, pe_and pa pb, fun σ H J ω ρ q x Q w s cq cx z => ka σ H J ω ρ _ x _ w s (fun r ω1 v J1 H1 z1 g1 w1 rp => ?_) cx z⟩
  split at z1
  · cases rp
    rename_i bb
    refine ⟨bb, rfl, ?_⟩
    cases bb with
    | true => exact iteT (kb σ H1 J1 ω1 ρ q x Q w1 (s.mono g1.jj) (cq.step g1) (cx.step g1) (by simpa using z1))
    | false => exact iteF ((cq.step g1).now w1 (by simpa using z1) (.bl _))
  · exact False.elim z1
theorem de_or {rest : List Expr} (ha : DE W X K a ta) (hb : DE W X K (.BoolOp .Or (b :: rest) pos) tb) : DE W X K (.BoolOp .Or (a :: b :: rest) pos) (dOrV ta tb) := by
  obtain ⟨ra, pa, ka⟩ := ha
  obtain ⟨rb, pb, kb⟩ := hb
  refine ⟨_, pe_or pa pb, fun σ H J ω ρ q x Q w s cq cx z => ka σ H J ω ρ _ x _ w s (fun r ω1 v J1 H1 z1 g1 w1 rp => ?_) cx z⟩
  split at z1
  · cases rp
    rename_i bb
    refine ⟨bb, rfl, ?_⟩
    cases bb with
    | false => exact iteF (kb σ H1 J1 ω1 ρ q x Q w1 (s.mono g1.jj) (cq.step g1) (cx.step g1) (by simpa using z1))
    | true => exact iteT ((cq.step g1).now w1 (by simpa using z1) (.bl _))
  · exact False.elim z1
theorem de_not (ha : DE W X K a ta) : DE W X K (.UnaryOp .Not a pos) (dNotV ta) := by
  obtain ⟨ra, pa, ka⟩ := ha
  refine ⟨_, pe_not pa, fun σ H J ω ρ q x Q w s cq cx z => ka σ H J ω ρ _ x _ w s (fun r ω1 v J1 H1 z1 g1 w1 rp => ?_) cx z⟩
  split at z1
  · cases rp
    exact ⟨_, rfl, (cq.step g1).now w1 z1 (.bl _)⟩
  · exact False.elim z1
theorem de_neg (ha : DE W X K a ta) : DE W X K (.UnaryOp .USub a pos) (dNeg ta) := by
  obtain ⟨ra, pa, ka⟩ := ha
  refine ⟨_, pe_un un_neg pa, fun σ H J ω ρ q x Q w s cq cx z => ka σ H J ω ρ _ x _ w s (fun r ω1 v J1 H1 z1 g1 w1 rp => ?_) cx z⟩
  split at z1
  · cases rp
    exact ⟨_, rfl, (cq.step g1).now w1 z1 (.int _)⟩
  · exact False.elim z1
variable {sa sb : DTT}
theorem dw_and1 (h : DT W X K a sa) : DW W X K (.BoolOp .And [a] pos) sa := by
  obtain ⟨ra, pa, ka⟩ := h
  exact ⟨_, pw_and1 pa, ka⟩
theorem dw_or1 (h : DT W X K a sa) : DW W X K (.BoolOp .Or [a] pos) sa := by
  obtain ⟨ra, pa, ka⟩ := h
  exact ⟨_, pw_or1 pa, ka⟩
theorem dw_and {rest : List Expr} (ha : DT W X K a sa) (hb : DW W X K (.BoolOp .And (b :: rest) pos) sb) : DW W X K (.BoolOp .And (a :: b :: rest) pos) (dAnd sa sb) := by
  obtain ⟨ra, pa, ka⟩ := ha
  obtain ⟨rb, pb, kb⟩ := hb
  refine ⟨_, pw_and pa pb, fun σ H J ω ρ q x Q w s cq cx z => ka σ H J ω ρ _ x _ w s (fun bb ω1 J1 H1 z1 g1 w1 => ?_) cx z⟩
  cases bb with
  | true => exact iteT (kb σ H1 J1 ω1 ρ q x Q w1 (s.mono g1.jj) (cq.step g1) (cx.step g1) (by simpa using z1))
  | false => exact iteF (cq _ _ _ _ (by simpa using z1) g1 w1)
theorem dw_or {rest : List Expr} (ha : DT W X K a sa) (hb : DW W X K (.BoolOp .Or (b :: rest) pos) sb) : DW W X K (.BoolOp .Or (a :: b :: rest) pos) (dOr sa sb) := by
  obtain ⟨ra, pa, ka⟩ := ha
  obtain ⟨rb, pb, kb⟩ := hb
  refine ⟨_, pw_or pa pb, fun σ H J ω ρ q x Q w s cq cx z => ka σ H J ω ρ _ x _ w s (fun bb ω1 J1 H1 z1 g1 w1 => ?_) cx z⟩
  cases bb with
  | false => exact iteF (kb σ H1 J1 ω1 ρ q x Q w1 (s.mono g1.jj) (cq.step g1) (cx.step g1) (by simpa using z1))
  | true => exact iteT (cq _ _ _ _ (by simpa using z1) g1 w1)
theorem DW.dt (h : DW W X K a sa) : DT W X K a sa := by
  obtain ⟨ra, pa, ka⟩ := h
  exact ⟨_, pa.pt, ka⟩
theorem dt_not (h : DT W X K a sa) : DT W X K (.UnaryOp .Not a pos) (dNot sa) := by
  obtain ⟨ra, pa, ka⟩ := h
  exact ⟨_, pt_not pa, fun σ H J ω ρ q x Q w s cq cx z => ka σ H J ω ρ _ x _ w s (fun bb ω1 J1 H1 z1 g1 w1 => cq _ _ _ _ z1 g1 w1) cx z⟩
theorem de_if (hc : DT W X K c sa) (ha : DE W X K a ta) (hb : DE W X K b tb) : DE W X K (.IfExp c a b pos) (dIf sa ta tb) := by
  obtain ⟨rc, pc, kc⟩ := hc
  obtain ⟨ra, pa, ka⟩ := ha
  obtain ⟨rb, pb, kb⟩ := hb
  refine ⟨_, pe_ifExp pc pa pb, fun σ H J ω ρ q x Q w s cq cx z => kc σ H J ω ρ _ x _ w s (fun bb ω1 J1 H1 z1 g1 w1 => ?_) cx z⟩
  cases bb with
  | true => exact iteT (ka σ H1 J1 ω1 ρ q x Q w1 (s.mono g1.jj) (cq.step g1) (cx.step g1) (by simpa using z1))
  | false => exact iteF (kb σ H1 J1 ω1 ρ q x Q w1 (s.mono g1.jj) (cq.step g1) (cx.step g1) (by simpa using z1))
theorem da_nil : DAs W X K [] dNil := ⟨_, pa_nil, fun σ H J ω ρ q x Q w s cq cx z => cq _ _ _ _ _ z Grow.refl w .nil⟩
theorem da_cons (he : DE W X K e ta) (ha : DAs W X K es tA) (hs : starEach (e :: es) X.env = (false, eval e X.env) :: starEach es X.env := by rfl) : DAs W X K (e :: es) (dCons ta tA) := by
  obtain ⟨re, pe, ke⟩ := he
  obtain ⟨ra, pa, ka⟩ := ha
  refine ⟨_, pa_cons pe pa hs, fun σ H J ω ρ q x Q w s cq cx z => ke σ H J ω ρ _ x _ w s (fun r ω1 v J1 H1 z1 g1 w1 rp => ?_) cx z⟩
  refine ka σ H1 J1 ω1 ρ _ x _ w1 (s.mono g1.jj) (fun rs ω2 vs J2 H2 z2 g2 w2 rps => ?_) (cx.step g1) z1
  exact cq _ _ _ _ _ z2 (g1.trans g2) w2 (.cons (rp_mono g2.jj _ _ rp) rps)
theorem de_lst (ha : DAs W X K es tA) : DE W X K (.List es pos) (dLst tA) := by
  obtain ⟨ra, pa, ka⟩ := ha
  refine ⟨_, pe_lst pa, fun σ H J ω ρ q x Q w s cq cx z => ka σ H J ω ρ _ x _ w s (fun rs ω1 vs J1 H1 z1 g1 w1 rps => ?_) cx z⟩
  exact ⟨by rw [rps.length]; exact z1.1, fun p hp => (cq.step g1).newL w1 z1.2 rps hp⟩
theorem de_lstO (ha : DAs W X K es tA) : DE W X K (.List es pos) (dLstO tA) := by
  obtain ⟨ra, pa, ka⟩ := ha
  refine ⟨_, pe_lst pa, fun σ H J ω ρ q x Q w s cq cx z => ka σ H J ω ρ _ x _ w s (fun rs ω1 vs J1 H1 z1 g1 w1 rps => ?_) cx z⟩
  exact ⟨by rw [rps.length]; exact z1.1, fun p hp => cq _ _ _ _ _ (z1.2 p (w1.free hp).1) (g1.trans (Grow.own rfl hp _)) (w1.own rfl hp ⟨vs, upd_same, rps⟩) (.ref p)⟩
theorem de_tup {x1} (ha : DAs W X K es tA) : DE W X K (.Tuple es x1 pos) (dTup tA) := by
  obtain ⟨ra, pa, ka⟩ := ha
  refine ⟨_, pe_tup pa, fun σ H J ω ρ q x Q w s cq cx z => ka σ H J ω ρ _ x _ w s (fun rs ω1 vs J1 H1 z1 g1 w1 rps => ?_) cx z⟩
  exact ⟨by rw [rps.length]; exact z1.1, fun p hp => (cq.step g1).newT w1 z1.2 rps hp⟩
theorem de_callB {x : Str} {id : String} {rd : RD1} {p : Pos} (hc : CallR X (.builtin id) (liftA K rd)) (hg : Gl X x) (hm : X.mg x = none) (hv : bootBuiltins x = some (.builtin id)) (ha : DAs W X K (e :: es) tA) (hn : x ≠ "__name__" := by decide) (hdb : (x == ("__debug__" : Str)) = false := by decide)
    (he : starEach (e :: es) X.env = (false, eval e X.env) :: starEach es X.env := by rfl) (hpl : (backTo pos (starEach es X.env)).any (·.1) = false := by rfl) : DE W X K (.Call (.Name x p) (e :: es) [] pos) (dCB rd tA) := by
  obtain ⟨ra, pa, ka⟩ := ha
  exact ⟨_, pe_callB hc hg hm hv pa hn hdb he hpl, fun σ H J ω ρ q x Q w s cq cx z => ka σ H J ω ρ _ x _ w s (fun rs ω1 vs J1 H1 z1 g1 w1 rps => ⟨J1, ω1, rs, q, w1, rps, cq.step g1, z1⟩) cx z⟩
theorem de_callTy {x : Str} {T : String} {rd : RD1} {p : Pos} (hc : CallR X (.type T) (liftA K rd)) (hg : Gl X x) (hm : X.mg x = none) (hv : bootBuiltins x = some (.type T)) (ha : DAs W X K (e :: es) tA) (hn : x ≠ "__name__" := by decide) (hdb : (x == ("__debug__" : Str)) = false := by decide)
    (he : starEach (e :: es) X.env = (false, eval e X.env) :: starEach es X.env := by rfl) (hpl : (backTo pos (starEach es X.env)).any (·.1) = false := by rfl) : DE W X K (.Call (.Name x p) (e :: es) [] pos) (dCB rd tA) := by
  obtain ⟨ra, pa, ka⟩ := ha
  exact ⟨_, pe_callTy hc hg hm hv pa hn hdb he hpl, fun σ H J ω ρ q x Q w s cq cx z => ka σ H J ω ρ _ x _ w s (fun rs ω1 vs J1 H1 z1 g1 w1 rps => ⟨J1, ω1, rs, q, w1, rps, cq.step g1, z1⟩) cx z⟩
theorem tyx_rp {J H : Hp} {ω : Wd} {v : V} {d : PyData} (w : Rw K J H ω) (h : Rp K J v d) (nd : match rsv ω d with
  | .dict _ => False
  | _ => True) : TyX K H v (.type (tyN (rsv ω d))) := by
  cases e : rsv ω d with
  | dict _ => rw [e] at nd; exact False.elim nd
  | list xs => obtain ⟨a, vs, rfl, ha, _⟩ := rp_list w h e; exact .base (.lst ha)
  | tuple xs =>
    obtain ⟨a, vs, rfl, ha, _⟩ := rp_tup w h e
    rcases ha with (h | ⟨o, h⟩) | ⟨o, its, n, h, hc, _⟩
    · exact .base (.tup h)
    · exact .fTuple h
    · exact .kTuple h hc
  | none => rw [(rp_flat h).2.2.2 e]; exact .base .non
  | bool b => rw [(rp_flat h).2.2.1 b e]; exact .base (.bl b)
  | int i => rw [(rp_flat h).2.1 i e]; exact .base (.int i)
  | str z => rw [(rp_flat h).1 z e]; exact .base (.str z)
theorem de_isi {T : String} {f : PyData → Bool} {t : Expr} {p : Pos} (hK : X.K = K) (hk : ∀ d, kitB (tyN d) T = some (f d)) (hg : Gl X "isinstance") (hm : X.mg "isinstance" = none) (ha : DE W X K a ta) (ht : PE X t (tC (.ty T)))
    (he : starEach (a :: [t]) X.env = (false, eval a X.env) :: starEach [t] X.env := by rfl) (he2 : starEach [t] X.env = (false, eval t X.env) :: starEach [] X.env := by rfl) (hpl : (backTo pos (starEach [t] X.env)).any (·.1) = false := by rfl) :
    DE W X K (.Call (.Name "isinstance" p) [a, t] [] pos) (dIsi f ta) := by
  subst hK
  obtain ⟨ra, pa, ka⟩ := ha
  refine ⟨_, pe_callB call_isi hg hm (by decide +kernel) (pa_cons pa (pa_cons ht pa_nil he2) he) (by decide) (by decide) he hpl, fun σ H J ω ρ q x Q w s cq cx z => ka σ H J ω ρ _ x _ w s (fun r ω1 v J1 H1 z1 g1 w1 rp => ?_) cx z⟩
  exact ⟨v, .ty T, .type (tyN (rsv ω1 r)), .type T, _, rfl, .ty T, tyx_rp w1 rp z1.1, kit_ty (hk _), (cq.step g1).now w1 z1.2 (.bl _)⟩
/-! ### slices -/
structure DO (W : WX) (X : Cx) (K : PySem.W.Frag) (e : Option Expr) (td : Option DTE) : Prop where
  ex : ∃ t : TO, PO X e t ∧ ∀ σ H J ω ρ (k : Option Int → Wd → Prop) x (Q : Option Int → Hp → Prop), Rw K J H ω → Sl K J σ ρ → (∀ l ω' J' H', k l ω' → Grow J H ω J' H' ω' → Rw K J' H' ω' → Q l H') → CovX K J H ω x (fun c d H => W c d σ H) →
    (match td with
      | none => fun (k : Option Int → Wd → Prop) => k none ω
      | some tl => fun k => tl ρ ω (fun l ω2 => match l with
        | .int i => k (some i) ω2
        | _ => False) x) k → t σ H Q
theorem do_none : DO W X K none none := ⟨_, po_none, fun σ H J ω ρ k x Q w s c cx z => c _ _ _ _ z Grow.refl w⟩
theorem do_some (h : DE W X K a ta) : DO W X K (some a) (some ta) := by
  obtain ⟨ra, pa, ka⟩ := h
  refine ⟨_, po_some pa, fun σ H J ω ρ k x Q w s c cx z => ka σ H J ω ρ _ x _ w s (fun r ω1 v J1 H1 z1 g1 w1 rp => ?_) cx z⟩
  split at z1
  · cases rp; exact ⟨_, rfl, c _ _ _ _ z1 g1 w1⟩
  · exact False.elim z1
theorem de_sl {lo hi : Option Expr} {tl th : Option DTE} {p2 : Pos} (hK : X.K = K) (h : DE W X K a ta) (hl : DO W X K lo tl) (hh : DO W X K hi th) : DE W X K (.Subscript a (.Slice lo hi none p2) pos) (dSl ta tl th) := by
  obtain ⟨ra, pa, ka⟩ := h
  obtain ⟨rl, pl, kl⟩ := hl
  obtain ⟨rh, ph, kh⟩ := hh
  refine ⟨_, pe_slice (do_sl hK) pa pl ph, fun σ H J ω ρ q x Q w s cq cx z => ka σ H J ω ρ _ x _ w s (fun r ω1 v J1 H1 z1 g1 w1 rp => ?_) cx z⟩
  refine kl σ H1 J1 ω1 ρ _ x _ w1 (s.mono g1.jj) (fun l ω2 J2 H2 z2 g2 w2 => ?_) (cx.step g1) z1
  refine kh σ H2 J2 ω2 ρ _ x _ w2 ((s.mono g1.jj).mono g2.jj) (fun l ω3 J3 H3 z3 g3 w3 => ?_) ((cx.step g1).step g2) z2
  exact ⟨J3, ω3, r, q, w3, rp_mono (g2.jj.trans g3.jj) _ _ rp, ((cq.step g1).step g2).step g3, z3⟩
end
end Tx

namespace Tx
open PySem PySem.Spec PyProof.Rows L2
/-! ## Rules over data: targets, what is walked, comprehensions -/
/-- the reading of the kit that a reading over data stands for -/
def liftE (K : PySem.W.Frag) (W : WX) (td : DTE) : TE := fun σ H Q => ∃ J ω ρ q x, Rw K J H ω ∧ Sl K J σ ρ ∧ CovQ K J H ω q Q ∧ CovX K J H ω x (fun c d H => W c d σ H) ∧ td ρ ω q x
def liftT (K : PySem.W.Frag) (W : WX) (td : DTT) : TT := fun σ H Q => ∃ J ω ρ q x, Rw K J H ω ∧ Sl K J σ ρ ∧ CovT K J H ω q Q ∧ CovX K J H ω x (fun c d H => W c d σ H) ∧ td ρ ω q x
theorem DE.pe {W : WX} {X : Cx} {K : PySem.W.Frag} {e : Expr} {td : DTE} (h : DE W X K e td) : PE X e (liftE K W td) := by
  obtain ⟨t, p, k⟩ := h
  exact ⟨fun pins s σ H Q I ⟨J, ω, ρ, q, x, w, sl, cq, cx, z⟩ => p.run pins s σ H Q I (k σ H J ω ρ q x Q w sl cq cx z)⟩
theorem DT.pt {W : WX} {X : Cx} {K : PySem.W.Frag} {e : Expr} {td : DTT} (h : DT W X K e td) : PT X e (liftT K W td) := by
  obtain ⟨t, p, k⟩ := h
  exact ⟨fun pins s σ H Q I ⟨J, ω, ρ, q, x, w, sl, cq, cx, z⟩ => p.run pins s σ H Q I (k σ H J ω ρ q x Q w sl cq cx z)⟩
/-! ### targets -/
abbrev DTG := PyData → DS → (DS → Prop) → Prop
abbrev DTGs := List PyData → DS → (DS → Prop) → Prop
def liftG (K : PySem.W.Frag) (is : List Nat) (gd : DTG) : TG := fun v σ H Q => ∃ J ω ρ d k, Rw K J H ω ∧ Sl K J σ ρ ∧ Rp K J v d ∧ (∀ ρ' σ', k ρ' → Sl K J σ' ρ' → (∀ vs, (∀ i ∈ is, i ∈ vs) → wipe σ' vs = wipe σ vs) → Q σ' H) ∧ gd d ρ k
def liftGs (K : PySem.W.Frag) (is : List Nat) (gd : DTGs) : TGs := fun vs σ H Q => ∃ J ω ρ ds k, Rw K J H ω ∧ Sl K J σ ρ ∧ RpAll K J vs ds ∧ (∀ ρ' σ', k ρ' → Sl K J σ' ρ' → (∀ vs, (∀ i ∈ is, i ∈ vs) → wipe σ' vs = wipe σ vs) → Q σ' H) ∧ gd ds ρ k
def DG (X : Cx) (K : PySem.W.Frag) (tg : Expr) (is : List Nat) (gd : DTG) : Prop := PG X tg (liftG K is gd)
def DGs (X : Cx) (K : PySem.W.Frag) (tg : List Expr) (is : List Nat) (gd : DTGs) : Prop := PGs X tg (liftGs K is gd)
def dgName (i : Nat) (d : PyData) (ρ : DS) (k : DS → Prop) : Prop := k (ρ.set i (some d))
def dgNil (ds : List PyData) (ρ : DS) (k : DS → Prop) : Prop := ds = [] ∧ k ρ
def dgCons (g : DTG) (gs : DTGs) (ds : List PyData) (ρ : DS) (k : DS → Prop) : Prop := match ds with
  | d :: r => g d ρ fun ρ' => gs r ρ' k
  | [] => False
def dgTup (n : Nat) (gs : DTGs) (d : PyData) (ρ : DS) (k : DS → Prop) : Prop := match d with
  | .tuple ds => ds.length = n ∧ gs ds ρ k
  | _ => False
section
variable {X : Cx} {K : PySem.W.Frag} {tg : Expr} {es : List Expr} {is js : List Nat} {gd : DTG} {gs : DTGs}
theorem pg_weak {t t' : TG} (h : PG X tg t) (k : ∀ v σ H Q, t' v σ H Q → t v σ H Q) : PG X tg t' := ⟨fun pins s σ H x v Q I r z => h.run pins s σ H x v Q I r (k _ _ _ _ z)⟩
theorem pgs_weak {t t' : TGs} (h : PGs X es t) (k : ∀ v σ H Q, t' v σ H Q → t v σ H Q) : PGs X es t' := ⟨fun pins s σ H xs us Q I r z => h.run pins s σ H xs us Q I r (k _ _ _ _ z)⟩
theorem dg_name {i : Nat} (h : PG X tg (gName i)) : DG X K tg [i] (dgName i) := pg_weak h fun v σ H Q ⟨J, ω, ρ, d, k, w, s, r, c, z⟩ => c _ _ z (s.set i r) fun vs hv => wipe_set (hv i (by simp))
theorem dgs_nil : DGs X K [] [] dgNil := pgs_weak pgs_nil fun v σ H Q ⟨J, ω, ρ, ds, k, w, s, r, c, z⟩ => by
  obtain ⟨rfl, z⟩ := z
  cases r
  exact ⟨rfl, c _ _ z s fun _ _ => rfl⟩
theorem dgs_cons (h : DG X K tg is gd) (hs : DGs X K es js gs) (hm : (assignEach (tg :: es) X.env).map (·.2) = assign tg X.env :: (assignEach es X.env).map (·.2) := by rfl) : DGs X K (tg :: es) (is ++ js) (dgCons gd gs) := pgs_weak (pgs_cons h hs hm) fun v σ H Q ⟨J, ω, ρ, ds, k, w, s, r, c, z⟩ => by
  cases r with
  | nil => exact False.elim z
  | @cons v vs d ds r1 r2 =>
    refine ⟨v, vs, rfl, J, ω, ρ, d, _, w, s, r1, fun ρ' σ' z' s' e1 => ?_, z⟩
    exact ⟨J, ω, ρ', ds, k, w, s', r2, fun ρ'' σ'' z'' s'' e2 => c _ _ z'' s'' fun us hu => (e2 us fun i hi => hu i (List.mem_append.mpr (.inr hi))).trans (e1 us fun i hi => hu i (List.mem_append.mpr (.inl hi))), z'⟩
theorem dg_tup {k n : Nat} {pos : Pos} (hK : X.K = K) (hc : X.calm = true) (h : DGs X K es is gs) (hn : (assignEach es X.env).length = n := by rfl) (hst : (assignEach es X.env).findIdx? (·.1) = none := by rfl) : DG X K (.Tuple es k pos) is (dgTup n gs) := by
  subst hK
  refine pg_weak (pg_tup hc h hn hst) fun v σ H Q ⟨J, ω, ρ, d, k, w, s, r, c, z⟩ => ?_
  unfold dgTup at z
  split at z
  · cases r with
    | tup hs ha => exact ⟨_, _, rfl, Same.sqT w.jh hs, by rw [ha.length]; exact z.1, J, ω, ρ, _, k, w, s, ha, c, z.2⟩
  · exact False.elim z
end
/-! ### what is walked -/
abbrev DTI := DS → Wd → (List PyData → Wd → Prop) → DXK → Prop
def WalkD (K : PySem.W.Frag) (J : Hp) (I : It) (xs : List PyData) : Prop := ∃ G Y, Walk I xs.length G Y ∧ (∀ J' H', Same J J' → Same J' H' → G H') ∧
  ∀ i H v H', i < xs.length → Y i H v H' → (H' = H ∧ ∃ d, xs[i]? = some d ∧ Rp K J v d) ∨ ∃ T us ds, v = .ref T ∧ H T = none ∧ H' = upd H T (.tup us) ∧ RpAll K J us ds ∧ xs[i]? = some (.tuple ds)
structure DI (W : WX) (X : Cx) (K : PySem.W.Frag) (tg iter : Expr) (di : DTI) : Prop where
  ex : ∃ wi : TI, PI X tg iter wi ∧ ∀ σ H J ω ρ (k : List PyData → Wd → Prop) x (R : It → Hp → Prop), Rw K J H ω → Sl K J σ ρ → (∀ xs ω1 J1 H1 I, k xs ω1 → Grow J H ω J1 H1 ω1 → Rw K J1 H1 ω1 → WalkD K J1 I xs → R I H1) →
    CovX K J H ω x (fun c d H => W c d σ H) → di ρ ω k x → wi σ H R
/-- a walk over data: a list, a tuple, a text -/
def itemsD : PyData → Option (List PyData)
  | .list xs => some xs
  | .tuple xs => some xs
  | .str z => some (z.cps.toList.map fun c => .str ⟨#[c]⟩)
  | _ => none
def diData (te : DTE) (ρ : DS) (ω : Wd) (k : List PyData → Wd → Prop) (x : DXK) : Prop := te ρ ω (fun r ω1 => ∃ xs, itemsD r = some xs ∧ k xs ω1) x
def diRange1 (ta : DTA) (ρ : DS) (ω : Wd) (k : List PyData → Wd → Prop) (x : DXK) : Prop := ta ρ ω (fun rs ω1 => match rs with
  | [.int n] => -(2 ^ 62) ≤ n ∧ n < 2 ^ 62 ∧ k ((List.range n.toNat).map fun i => .int ((i : Nat) : Int)) ω1
  | _ => False) x
def diRange2 (ta : DTA) (ρ : DS) (ω : Wd) (k : List PyData → Wd → Prop) (x : DXK) : Prop := ta ρ ω (fun rs ω1 => match rs with
  | [.int a, .int b] => (-(2 ^ 62) ≤ a ∧ a < 2 ^ 62 ∧ -(2 ^ 62) ≤ b ∧ b < 2 ^ 62) ∧ k ((List.range (b - a).toNat).map fun i => .int (a + ((i : Nat) : Int))) ω1
  | _ => False) x
def enumD (xs : List PyData) : List PyData := xs.mapIdx fun i x => .tuple [.int ((i : Nat) : Int), x]
def diEnum (ta : DTA) (ρ : DS) (ω : Wd) (k : List PyData → Wd → Prop) (x : DXK) : Prop := ta ρ ω (fun rs ω1 => match rs with
  | [.list xs] => k (enumD xs) ω1
  | _ => False) x
section
variable {X : Cx} {K : PySem.W.Frag}
/-- a list, a tuple or a text, as it comes -/
theorem pi_data {tg e : Expr} {t : TE} (h : PE X e t) : PI X tg e (fun σ H R => t σ H fun x H1 => (∃ a, x = .ref a ∧ (∃ xs, SqL X.K H1 a xs) ∧ R (Itl X.K a) H1) ∨ (∃ a, x = .ref a ∧ (∃ xs, SqT X.K H1 a xs) ∧ R (Itt X.K a) H1) ∨ ∃ z, x = .str z ∧ R (Its z) H1) := by
  refine ⟨fun pins s σ H R I q => ?_⟩
  refine thn (h.run pins s σ H _ I q) fun v s1 ⟨x, H1, I1, r1, q1⟩ => ?_
  rcases q1 with ⟨a, rfl, ⟨xs, hq⟩, q⟩ | ⟨a, rfl, ⟨xs, hq⟩, q⟩ | ⟨z, rfl, q⟩
  · cases r1
    obtain ⟨its, rv, p, hz⟩ := I1.list hq
    refine wpAny_pyIter_list p.isList ?_
    refine ⟨s1.heap.objs.size, [s1.heap.objs.size], _, _, H1, rfl, I1.kept (t' := s1.toks) fun b o e => Heap.get?_push_of_some _ e, turn_list a _, ⟨_, Heap.get?_push_size _ rfl, rfl, rfl⟩, fun b hb => ?_, q⟩
    have e : b = s1.heap.objs.size := by simpa using hb
    subst e
    exact I1.fpOk (Nat.le_refl _) (I1.hok.fresh (Nat.le_refl _))
  · cases r1
    obtain ⟨its, rv, p, hz⟩ := I1.tuple hq
    refine wpAny_pyIter_tuple (show s1.heap.IsTuple a its.toArray from p) ?_
    refine ⟨s1.heap.objs.size, [s1.heap.objs.size], _, _, H1, rfl, I1.kept (t' := s1.toks) fun b o e => Heap.get?_push_of_some _ e, turn_tuple a _, ⟨_, Heap.get?_push_size _ rfl, rfl, rfl⟩, fun b hb => ?_, q⟩
    have e : b = s1.heap.objs.size := by simpa using hb
    subst e
    exact I1.fpOk (Nat.le_refl _) (I1.hok.fresh (Nat.le_refl _))
  · obtain ⟨t, rfl⟩ := r1
    cases ha : z.cps.all (· < 128)
    · exact wpAny_pyIter_wide ha (pi_one (tk := s1.toks) I1 _ (turn_str _ z t "str_iterator" (.inr rfl)) ⟨_, Heap.get?_push_size _ rfl, rfl, rfl⟩ q)
    · exact wpAny_pyIter_ascii ha (pi_one (tk := s1.toks) I1 _ (turn_str _ z t "str_ascii_iterator" (.inl rfl)) ⟨_, Heap.get?_push_size _ rfl, rfl, rfl⟩ q)
theorem walkD_list {J : Hp} {a : Addr} {vs : List V} {xs : List PyData} (h : J a = some (.lst vs)) (r : RpAll K J vs xs) : WalkD K J (Itl K a) xs := by
  refine ⟨_, _, by rw [← r.length]; exact walk_list (xs := vs), fun J' H' s1 s2 => SqL.of (s2 _ _ (s1 _ _ h)), fun i H v H' hi y => ?_⟩
  exact .inl ⟨y.1, r.get y.2⟩
theorem walkD_tup {J : Hp} {a : Addr} {vs : List V} {xs : List PyData} (h : SqT K J a vs) (r : RpAll K J vs xs) : WalkD K J (Itt K a) xs := by
  refine ⟨_, _, by rw [← r.length]; exact walk_tup (xs := vs), fun J' H' s1 s2 => Same.sqT s2 (Same.sqT s1 h), fun i H v H' hi y => ?_⟩
  exact .inl ⟨y.1, r.get y.2⟩
theorem walkD_str {J : Hp} {z : Str} : WalkD K J (Its z) (z.cps.toList.map fun c => .str ⟨#[c]⟩) := by
  refine ⟨_, _, by rw [List.length_map, Array.length_toList]; exact walk_str (z := z), fun _ _ _ _ => trivial, fun i H v H' hi y => ?_⟩
  obtain ⟨c, e, rfl⟩ := y.2
  exact .inl ⟨y.1, _, by rw [List.getElem?_map, Array.getElem?_toList, e]; rfl, .str _⟩
theorem walkD_range {J : Hp} {lo : Int} {n : Nat} : WalkD K J (Itr lo n) ((List.range n).map fun i => .int (lo + ((i : Nat) : Int))) := by
  refine ⟨_, _, by rw [List.length_map, List.length_range]; exact walk_range (lo := lo) (n := n), fun _ _ _ _ => trivial, fun i H v H' hi y => ?_⟩
  rw [List.length_map, List.length_range] at hi
  exact .inl ⟨y.1, _, by rw [List.getElem?_map, List.getElem?_range hi]; rfl, by rw [y.2]; exact .int _⟩
theorem walkD_enum {J : Hp} {a : Addr} {vs : List V} {xs : List PyData} (h : J a = some (.lst vs)) (r : RpAll K J vs xs) : WalkD K J (Ite K a) (enumD xs) := by
  refine ⟨_, _, by unfold enumD; rw [List.length_mapIdx, ← r.length]; exact walk_enum (xs := vs), fun J' H' s1 s2 => SqL.of (s2 _ _ (s1 _ _ h)), fun i H v H' hi y => .inr ?_⟩
  obtain ⟨T, x, y, e1, e2, e3, e4, e5⟩ := y
  obtain ⟨d, e6, e7⟩ := r.get e5
  cases e4
  exact ⟨T, _, [.int ((i : Nat) : Int), d], e1, e2, e3, .cons (.int _) (.cons e7 .nil), by unfold enumD; rw [List.getElem?_mapIdx, e6]; rfl⟩
variable {W : WX} {tg e : Expr} {td : DTE} {tA : DTA}
theorem di_data (hK : X.K = K) (h : DE W X K e td) : DI W X K tg e (diData td) := by
  subst hK
  obtain ⟨t, p, k⟩ := h
  refine ⟨_, pi_data p, fun σ H J ω ρ kk x R w s c cx z => k σ H J ω ρ _ x _ w s (fun r ω1 v J1 H1 z1 g1 w1 rp => ?_) cx z⟩
  obtain ⟨xs, e1, z2⟩ := z1
  cases rp with
  | lst hs ha => cases e1; exact .inl ⟨_, rfl, ⟨_, SqL.of (w1.jh _ _ hs)⟩, c _ _ _ _ _ z2 g1 w1 (walkD_list hs ha)⟩
  | tup hs ha => cases e1; exact .inr (.inl ⟨_, rfl, ⟨_, Same.sqT w1.jh hs⟩, c _ _ _ _ _ z2 g1 w1 (walkD_tup hs ha)⟩)
  | str y => cases e1; exact .inr (.inr ⟨_, rfl, c _ _ _ _ _ z2 g1 w1 walkD_str⟩)
  | non => cases e1
  | bl _ => cases e1
  | int _ => cases e1
  | ref _ => cases e1
  | scr _ => cases e1
  | pub _ => cases e1
  | dic _ _ => cases e1
  | obj _ _ => cases e1
theorem di_range1 {a : Expr} {p pos : Pos} (hg : Gl X "range") (hm : X.mg "range" = none) (ha : DAs W X K [a] tA) (hs : starEach [a] X.env = [(false, eval a X.env)] := by rfl) : DI W X K tg (.Call (.Name "range" p) [a] [] pos) (diRange1 tA) := by
  obtain ⟨t, pp, k⟩ := ha
  refine ⟨_, pi_range1 hg hm pp hs, fun σ H J ω ρ kk x R w s c cx z => k σ H J ω ρ _ x _ w s (fun rs ω1 vs J1 H1 z1 g1 w1 rps => ?_) cx z⟩
  split at z1
  · cases rps with
    | cons r1 r2 =>
      cases r1
      cases r2
      refine ⟨_, rfl, z1.1, z1.2.1, c _ _ _ _ _ z1.2.2 g1 w1 ?_⟩
      have := walkD_range (K := K) (J := J1) (lo := 0) (n := Int.toNat (by assumption))
      simpa using this
  · exact False.elim z1
theorem di_range2 {a b : Expr} {p pos : Pos} (hg : Gl X "range") (hm : X.mg "range" = none) (ha : DAs W X K [a, b] tA) (hs : starEach [a, b] X.env = [(false, eval a X.env), (false, eval b X.env)] := by rfl) (hs2 : starEach [b] X.env = [(false, eval b X.env)] := by rfl) : DI W X K tg (.Call (.Name "range" p) [a, b] [] pos) (diRange2 tA) := by
  obtain ⟨t, pp, k⟩ := ha
  refine ⟨_, pi_range2 hg hm pp hs hs2, fun σ H J ω ρ kk x R w s c cx z => k σ H J ω ρ _ x _ w s (fun rs ω1 vs J1 H1 z1 g1 w1 rps => ?_) cx z⟩
  split at z1
  · cases rps with
    | cons r1 r2 =>
      cases r1
      cases r2 with
      | cons r3 r4 =>
        cases r3
        cases r4
        exact ⟨_, _, rfl, z1.1, c _ _ _ _ _ z1.2 g1 w1 walkD_range⟩
  · exact False.elim z1
theorem di_enum {a : Expr} {p pos tpos : Pos} {elts : List Expr} {kk : Nat} (hK : X.K = K) (hg : Gl X "enumerate") (hm : X.mg "enumerate" = none) (ha : DAs W X K [a] tA) (hs : starEach [a] X.env = [(false, eval a X.env)] := by rfl) :
    DI W X K (.Tuple elts kk tpos) (.Call (.Name "enumerate" p) [a] [] pos) (diEnum tA) := by
  subst hK
  obtain ⟨t, pp, k⟩ := ha
  refine ⟨_, pi_enum hg hm pp hs, fun σ H J ω ρ kk x R w s c cx z => k σ H J ω ρ _ x _ w s (fun rs ω1 vs J1 H1 z1 g1 w1 rps => ?_) cx z⟩
  split at z1
  · cases rps with
    | cons r1 r2 =>
      cases r2
      cases r1 with
      | lst hs ha => exact ⟨_, _, rfl, SqL.of (w1.jh _ _ hs), c _ _ _ _ _ z1 g1 w1 (walkD_enum hs ha)⟩
  · exact False.elim z1
end
/-! ### comprehensions -/
abbrev W0 : WX := fun _ _ _ _ => False
abbrev X0 : DXK := fun _ _ _ => False
structure DTs (W : WX) (X : Cx) (K : PySem.W.Frag) (ifs : List Expr) (td : DTT) : Prop where
  ps : PTs X ifs (liftT K W td)
def dYes (_ : DS) (ω : Wd) (q : Bool → Wd → Prop) (_ : DXK) : Prop := q true ω
theorem dts_nil {W : WX} {X : Cx} {K : PySem.W.Frag} : DTs W X K [] dYes :=
  ⟨⟨fun pins s σ H Q I ⟨J, ω, ρ, q, x, w, sl, cq, cx, z⟩ => (pts_nil (X := X)).run pins s σ H Q I (cq _ _ _ _ z Grow.refl w)⟩⟩
theorem dts_one {W : WX} {X : Cx} {K : PySem.W.Frag} {c : Expr} {td : DTT} (h : DT W X K c td) : DTs W X K [c] td := ⟨pts_one h.pt⟩
def dLc (di : DTI) (gd : DTG) (tt : DTT) (te : DTE) (vs : List Nat) (ρ : DS) (ω : Wd) (q : DQ) (x : DXK) : Prop := di ρ ω (fun xs ω1 => xs.length ≤ sizeLine ∧ ∃ Inv : Nat → List PyData → Wd → Prop, Inv 0 [] ω1 ∧
  (∀ i y acc ω2, xs[i]? = some y → Inv i acc ω2 → acc.length ≤ i → gd y (wipeD ρ vs) fun ρ' => tt ρ' ω2 (fun b ω3 => if b = true then te ρ' ω3 (fun r ω4 => Inv (i + 1) (acc ++ [r]) ω4) X0 else Inv (i + 1) acc ω3) X0) ∧
  ∀ acc ω2, acc.length ≤ xs.length → Inv xs.length acc ω2 → q (.list acc) ω2) x
theorem wipe_wipe (σ : L2.St) (vs : List Nat) : wipe (wipe σ vs) vs = wipe σ vs := by
  have key : ∀ (ws : List Nat) (σ : L2.St), (∀ i ∈ ws, i ∈ vs) → wipe (wipe σ ws) vs = wipe σ vs := by
    intro ws
    induction ws with
    | nil => intro σ _; rfl
    | cons i ws ih =>
      intro σ h
      show wipe ((wipe σ ws).set i none) vs = wipe σ vs
      rw [wipe_set (h i (by simp)), ih σ fun j hj => h j (List.mem_cons_of_mem _ hj)]
  exact key vs σ fun _ h => h
section
variable {K : PySem.W.Frag} {J J1 H H1 : Hp} {ω ω1 : Wd} {D : Addr}
/-- a list that is being made, neither data yet nor a cell -/
theorem Grow.loc (g : Grow J H ω J1 H1 ω1) (hD : H D = none) (o : HO) : Grow J H ω J1 (upd H1 D o) ω1 :=
  ⟨g.jj, fun a h => by rw [upd_ne (ne_new h hD)]; exact g.dom a h, fun a u h z => by rw [upd_ne (ne_of_none h hD)]; exact g.keep a u h z, g.frj, g.frw⟩
theorem fr_ne {a : Addr} {m : MO} {b : Addr} (hw : Fr ω D) (e : ω a = some m) (l : Looks a m b) : b ≠ D := by
  rintro rfl
  rcases l with rfl | nb
  · rw [hw.1] at e; cases e
  · exact hw.2 a m e nb
theorem Rw.loc (w : Rw K J H ω) (hj : J D = none) (hw : Fr ω D) (o : HO) : Rw K J (upd H D o) ω := by
  refine w.step (Same.refl _) (fun a u e => ?_) (fun _ _ j => j) fun a m e => .inl ⟨e, fun b u l z => ?_⟩
  · rw [upd_ne fun z => by rw [z, hj] at e; cases e]; exact w.jh a u e
  · rw [upd_ne (fr_ne hw e l)]; exact z
theorem Grow.take (g : Grow J H ω J1 H1 ω1) (hD : H D = none) (hj : J1 D = none) (o : HO) : Grow J H ω (upd J1 D o) H1 ω1 :=
  ⟨g.jj.trans (same_new hj o), g.dom, g.keep, fun a h z j => by rw [upd_ne (ne_new h hD)]; exact g.frj a h z j, g.frw⟩
theorem Rw.take {o : HO} (w : Rw K J H ω) (hj : J D = none) (hw : Fr ω D) (h : H D = some o) : Rw K (upd J D o) H ω := by
  refine ⟨fun a u e => ?_, fun a m e => ?_, fun a m e => (w.cell a m e).mono (same_new hj o) fun _ _ _ z => z, fun a m e b nb => ?_⟩
  · by_cases z : a = D
    · rw [z, upd_same] at e; rw [z, ← e]; exact h
    · rw [upd_ne z] at e; exact w.jh a u e
  · rw [upd_ne (fr_ne hw e (.inl rfl))]; exact w.out a m e
  · obtain ⟨t1, t2, t3⟩ := w.tmp a m e b nb
    exact ⟨by rw [upd_ne (fr_ne hw e (.inr nb))]; exact t1, t2, t3⟩
end
section
variable {W : WX} {X : Cx} {K : PySem.W.Frag} {elt tg iter : Expr} {ifs : List Expr} {scope : Scope} {own : List (Str × Nat)} {pos : Pos} {is : List Nat} {di : DTI} {gd : DTG} {tt : DTT} {te : DTE}
theorem lc_run {wi : TI} (hi : ∀ σ H J ω ρ (k : List PyData → Wd → Prop) x (R : It → Hp → Prop), Rw K J H ω → Sl K J σ ρ → (∀ xs ω1 J1 H1 I, k xs ω1 → Grow J H ω J1 H1 ω1 → Rw K J1 H1 ω1 → WalkD K J1 I xs → R I H1) →
    CovX K J H ω x (fun c d H => W c d σ H) → di ρ ω k x → wi σ H R) {vs : List Nat} (his : ∀ i ∈ is, i ∈ vs)
    {σ : L2.St} {H J : Hp} {ω : Wd} {ρ : DS} {q : DQ} {x : DXK} {Q : VK} (w : Rw K J H ω) (s : Sl K J σ ρ) (cq : CovQ K J H ω q Q) (cx : CovX K J H ω x (fun c d H => W c d σ H)) (z : dLc di gd tt te vs ρ ω q x) :
    tLc wi (liftG K is gd) (liftT K W0 tt) (liftE K W0 te) vs σ H Q := by
  refine hi σ H J ω ρ _ x _ w s (fun xs ω1 J1 H1 I z1 g1 w1 wd => ?_) cx z
  intro D hD
  obtain ⟨hz, Inv, i0, step, fin⟩ := z1
  obtain ⟨G, Y, wk, hG, hY⟩ := wd
  have hjD : J1 D = none := w1.jh.free hD
  have s1 := s.mono g1.jj
  refine lc_it wk (fun i H' => ∃ J' ω' acc us, Grow J1 H1 ω1 J' H' ω' ∧ Rw K J' H' ω' ∧ H' D = some (.lst us) ∧ J' D = none ∧ Fr ω' D ∧ RpAll K J' us acc ∧ acc.length ≤ i ∧ Inv i acc ω') ?_ ?_ ?_ ?_
  · exact ⟨J1, ω1, [], [], Grow.junk hD _, w1.junk hD _, upd_same, hjD, w1.free hD, .nil, Nat.le_refl _, i0⟩
  · rintro i H' _ ⟨J', ω', acc, us, g, w', _⟩
    exact hG J' H' g.jj w'.jh
  · rintro i v H2 H2' hi ⟨J2, ω2, acc, us, g2, w2, hD2, jD2, oD2, ra, al, inv⟩ y
    have go : ∀ (d : PyData) (J3 H3 : Hp), xs[i]? = some d → Grow J2 H2 ω2 J3 H3 ω2 → Rw K J3 H3 ω2 → Rp K J3 v d → liftG K is gd v (wipe σ vs) H3 fun σ2 H2 => wipe σ2 vs = wipe σ vs ∧ liftT K W0 tt σ2 H2 fun b H3 =>
        if b = true then liftE K W0 te σ2 H3 fun y H4 => ∃ acc, H4 D = some (.lst acc) ∧ acc.length < sizeLine ∧ (∃ J' ω' acc' us, Grow J1 H1 ω1 J' (upd H4 D (.lst (acc ++ [y]))) ω' ∧ Rw K J' (upd H4 D (.lst (acc ++ [y]))) ω' ∧ upd H4 D (.lst (acc ++ [y])) D = some (.lst us) ∧ J' D = none ∧ Fr ω' D ∧ RpAll K J' us acc' ∧ acc'.length ≤ i + 1 ∧ Inv (i + 1) acc' ω')
        else ∃ J' ω' acc us, Grow J1 H1 ω1 J' H3 ω' ∧ Rw K J' H3 ω' ∧ H3 D = some (.lst us) ∧ J' D = none ∧ Fr ω' D ∧ RpAll K J' us acc ∧ acc.length ≤ i + 1 ∧ Inv (i + 1) acc ω' := by
      intro d J3 H3 e3 g3 w3 r3
      have hD3 := g3.keep D _ hD2 oD2
      have nD2 : H2 D ≠ none := by rw [hD2]; simp
      have jD3 := g3.frj D nD2 oD2 jD2
      refine ⟨J3, ω2, wipeD ρ vs, d, _, w3, (s1.mono (g2.jj.trans g3.jj)).wipe vs, r3, fun ρ' σ' z4 s4 ew => ⟨(ew vs his).trans (wipe_wipe σ vs), ?_⟩, step i d acc ω2 e3 inv al⟩
      refine ⟨J3, ω2, ρ', _, X0, w3, s4, fun b ω5 J5 H5 z5 g5 w5 => ?_, (fun _ _ _ _ _ _ z => False.elim z), z4⟩
      have nD3 : H3 D ≠ none := by rw [hD3]; simp
      have hD5 := g5.keep D _ hD3 oD2
      have jD5 := g5.frj D nD3 oD2 jD3
      have oD5 := g5.frw D nD3 oD2
      have nD5 : H5 D ≠ none := by rw [hD5]; simp
      cases b with
      | false =>
        refine iteF ⟨J5, ω5, acc, us, (g2.trans g3).trans g5, w5, hD5, jD5, oD5, rpAll_mono (g3.jj.trans g5.jj) _ _ ra, by omega, by simpa using z5⟩
      | true =>
        refine iteT ⟨J5, ω5, ρ', _, X0, w5, s4.mono g5.jj, fun r ω6 y J6 H6 z6 g6 w6 r6 => ?_, (fun _ _ _ _ _ _ z => False.elim z), by simpa using z5⟩
        have hD6 := g6.keep D _ hD5 oD5
        have jD6 := g6.frj D nD5 oD5 jD5
        have oD6 := g6.frw D nD5 oD5
        have ul := ra.length
        refine ⟨us, hD6, by omega, J6, ω6, acc ++ [r], us ++ [y], (((g2.trans g3).trans g5).trans g6).loc hD _, w6.loc jD6 oD6 _, upd_same, jD6, oD6, RpAll.append (rpAll_mono ((g3.jj.trans g5.jj).trans g6.jj) _ _ ra) (.one r6), by rw [List.length_append]; simp; omega, z6⟩
    rcases hY i H2 v H2' hi y with ⟨rfl, d, e1, e2⟩ | ⟨T, us2, ds, rfl, hT, rfl, e1, e2⟩
    · exact go d J2 _ e1 Grow.refl w2 (rp_mono g2.jj _ _ e2)
    · exact go (.tuple ds) _ _ e2 (Grow.frz w2 hT _) (w2.frz hT _) (.tup (SqT.of upd_same) (rpAll_mono (g2.jj.trans (same_new (w2.jh.free hT) _)) _ _ e1))
  · rintro H2 ⟨J2, ω2, acc, us, g2, w2, hD2, jD2, oD2, ra, al, inv⟩
    exact (cq.step g1) _ _ _ _ _ (fin acc ω2 al inv) (g2.take hD jD2 _) (w2.take jD2 oD2 hD2) (.lst upd_same (rpAll_mono (same_new jD2 _) _ _ ra))
theorem de_lc (hc : X.calm = true) (hN : X.N.Nodup) (hi : DI W X K tg iter di) (ok : BlkOk X.N X.env.scope scope own)
    (hg : ∀ (s : Shared) (H : Hp) (C : Addr) (cl : List (Str × Addr)) (fp : List Addr), DG (X.blk s H scope (compEnvC scope cl C X.env) fp) K tg is gd)
    (ht : ∀ (s : Shared) (H : Hp) (C : Addr) (cl : List (Str × Addr)) (fp : List Addr), DTs W0 (X.blk s H scope (compEnvC scope cl C X.env) fp) K ifs tt)
    (he : ∀ (s : Shared) (H : Hp) (C : Addr) (cl : List (Str × Addr)) (fp : List Addr), DE W0 (X.blk s H scope (compEnvC scope cl C X.env) fp) K elt te)
    (his : ∀ i ∈ is, i ∈ own.map (·.2) := by decide) (hs : ∀ x, foldedSetIterable iter X.env x = pure x := by intro _; rfl) :
    DE W X K (.ListComp elt [⟨tg, iter, ifs, 0⟩] scope pos) (dLc di gd tt te (own.map (·.2))) := by
  obtain ⟨wi, p, k⟩ := hi
  exact ⟨_, pe_lc hc hN p ok hg (fun s H C cl fp => (ht s H C cl fp).ps) (fun s H C cl fp => (he s H C cl fp).pe) hs, fun σ H J ω ρ q x Q w s cq cx z => lc_run k his w s cq cx z⟩
end
end Tx

namespace Tx
open PySem PySem.Spec PyProof.Rows L2
/-! ## Rules over data: statements, defs, calls, errors -/
def xcOf (D : DEnds) (ρ : DS) : DXK := fun C fs ω => D.xc C fs ρ ω
def dNext (D : DEnds) (ρ : DS) (ω : Wd) : Prop := D.nx ρ ω
def dSeq (t u : DTS) (D : DEnds) (ρ : DS) (ω : Wd) : Prop := t { D with nx := u D } ρ ω
def dSet (i : Nat) (te : DTE) (D : DEnds) (ρ : DS) (ω : Wd) : Prop := te ρ ω (fun r ω1 => D.nx (ρ.set i (some r)) ω1) (xcOf D ρ)
def dAsg (te : DTE) (g : DTG) (D : DEnds) (ρ : DS) (ω : Wd) : Prop := te ρ ω (fun r ω1 => g r ρ fun ρ' => D.nx ρ' ω1) (xcOf D ρ)
def dPar (i j : Nat) (ta : DTA) (D : DEnds) (ρ : DS) (ω : Wd) : Prop := ta ρ ω (fun rs ω1 => match rs with
  | [a, b] => D.nx ((ρ.set i (some a)).set j (some b)) ω1
  | _ => False) (xcOf D ρ)
def dDrop (te : DTE) (D : DEnds) (ρ : DS) (ω : Wd) : Prop := te ρ ω (fun _ ω1 => D.nx ρ ω1) (xcOf D ρ)
def dRet (te : DTE) (D : DEnds) (ρ : DS) (ω : Wd) : Prop := te ρ ω D.rt (xcOf D ρ)
def dRetN (D : DEnds) (_ : DS) (ω : Wd) : Prop := D.rt .none ω
def dBreak (D : DEnds) (ρ : DS) (ω : Wd) : Prop := D.bk ρ ω
def dCont (D : DEnds) (ρ : DS) (ω : Wd) : Prop := D.ct ρ ω
def dIfS (c : DTT) (t u : DTS) (D : DEnds) (ρ : DS) (ω : Wd) : Prop := c ρ ω (fun b ω1 => if b = true then t D ρ ω1 else u D ρ ω1) (xcOf D ρ)
def dFor (di : DTI) (gd : DTG) (tb : DTS) (D : DEnds) (ρ : DS) (ω : Wd) : Prop := di ρ ω (fun xs ω1 => ∃ Inv : Nat → DS → Wd → Prop, Inv 0 ρ ω1 ∧
  (∀ i x ρ' ω', xs[i]? = some x → Inv i ρ' ω' → gd x ρ' fun ρ'' => tb { D with nx := Inv (i + 1), ct := Inv (i + 1), bk := D.nx } ρ'' ω') ∧ ∀ ρ' ω', Inv xs.length ρ' ω' → D.nx ρ' ω') (xcOf D ρ)
def dWhile (c : DTT) (tb : DTS) (D : DEnds) (ρ : DS) (ω : Wd) : Prop := ∃ Inv : Nat → DS → Wd → Prop, (∃ m, Inv m ρ ω) ∧
  ∀ m ρ' ω', Inv m ρ' ω' → c ρ' ω' (fun b ω1 => if b = true then tb { D with nx := fun ρ2 ω2 => ∃ m', m' < m ∧ Inv m' ρ2 ω2, ct := fun ρ2 ω2 => ∃ m', m' < m ∧ Inv m' ρ2 ω2, bk := D.nx } ρ' ω1 else D.nx ρ' ω1) (xcOf D ρ')
section
variable {W : WX} {X : Cx} {K : PySem.W.Frag} {e c tg iter : Expr} {es : List Expr} {st : Stmt} {a b body rest : List Stmt} {te : DTE} {tA : DTA} {tc : DTT} {t u : DTS} {pos : Pos} {is : List Nat} {gd : DTG} {di : DTI}
theorem dss_nil : DSs W X K [] dNext := ⟨_, pss_nil, fun D DD σ H J ω ρ w s cs z => cs.nx _ _ _ _ _ z Grow.refl w s⟩
theorem dss_one (h : DSt W X K st t) : DSs W X K [st] t := by
  obtain ⟨r, p, k⟩ := h
  exact ⟨_, pss_one p, k⟩
theorem dss_cons (h : DSt W X K st t) (hs : DSs W X K rest u) : DSs W X K (st :: rest) (dSeq t u) := by
  obtain ⟨r, p, k⟩ := h
  obtain ⟨r2, p2, k2⟩ := hs
  refine ⟨_, pss_cons p p2, fun D DD σ H J ω ρ w s cs z => k { D with nx := r2 D } { DD with nx := u DD } σ H J ω ρ w s ⟨fun ρ' ω' σ' J' H' z' g' w' s' => ?_, cs.bk, cs.ct, cs.rt, cs.xc⟩ z⟩
  exact k2 D DD σ' H' J' ω' ρ' w' s' (cs.step g') z'
theorem ds_set {i : Nat} {x : Str} {pos' : Pos} (hN : X.N.Nodup) (hi : X.N[i]? = some x) (hx : Loc X.env.scope x) (he : DE W X K e te) (hs : swapsWith e (some (.Name x pos')) pos.line X.env = pure false := by rfl) (hf : X.fn x = true ∨ X.env.scope.names.lookup x = some .local := by first | exact .inl rfl | exact .inr rfl | assumption) :
    DSt W X K (.Assign [.Name x pos'] e pos) (dSet i te) := by
  obtain ⟨r, p, k⟩ := he
  refine ⟨_, ps_set hN hi hx p hs hf, fun D DD σ H J ω ρ w s cs z => k σ H J ω ρ _ _ _ w s (fun d ω1 v J1 H1 z1 g1 w1 rp => ?_) (cs.x s) z⟩
  exact cs.nx _ _ _ _ _ z1 g1 w1 ((s.mono g1.jj).set i rp)
theorem ds_asg (he : DE W X K e te) (hg : DG X K tg is gd) (hs : swapsWithSole [tg] e pos.line X.env = pure false := by rfl) (hw : swappedStores [tg] e X.env = pure none := by rfl) (h1 : (assignEach [tg] X.env).map (·.2) = [assign tg X.env] := by rfl) :
    DSt W X K (.Assign [tg] e pos) (dAsg te gd) := by
  obtain ⟨r, p, k⟩ := he
  refine ⟨_, ps_asg p hg hs hw h1, fun D DD σ H J ω ρ w s cs z => k σ H J ω ρ _ _ _ w s (fun d ω1 v J1 H1 z1 g1 w1 rp => ?_) (cs.x s) z⟩
  exact ⟨J1, ω1, ρ, d, _, w1, s.mono g1.jj, rp, fun ρ' σ' z' s' _ => cs.nx _ _ _ _ _ z' g1 w1 s', z1⟩
theorem ds_par {i j : Nat} {x y : Str} {e1 e2 : Expr} {px py pt : Pos} {kt k2 pt2} (hc : X.calm = true) (hN : X.N.Nodup) (hi : X.N[i]? = some x) (hj : X.N[j]? = some y) (hij : i ≠ j)
    (hx : X.env.scope.names.lookup x = some .local) (hy : X.env.scope.names.lookup y = some .local) (ha : DAs W X K [e1, e2] tA)
    (hw : swappedStores [.Tuple [.Name x px, .Name y py] kt pt] (.Tuple [e1, e2] k2 pt2) X.env = pure (some [x, y]))
    (hs : swapsWithSole [.Tuple [.Name x px, .Name y py] kt pt] (.Tuple [e1, e2] k2 pt2) pos.line X.env = pure false := by rfl) :
    DSt W X K (.Assign [.Tuple [.Name x px, .Name y py] kt pt] (.Tuple [e1, e2] k2 pt2) pos) (dPar i j tA) := by
  obtain ⟨r, p, k⟩ := ha
  refine ⟨_, ps_par hc hN hi hj hij hx hy p hw hs, fun D DD σ H J ω ρ w s cs z => k σ H J ω ρ _ _ _ w s (fun ds ω1 vs J1 H1 z1 g1 w1 rp => ?_) (cs.x s) z⟩
  split at z1
  · cases rp with
    | cons r1 r2 =>
      cases r2 with
      | cons r3 r4 =>
        cases r4
        exact ⟨_, _, rfl, cs.nx _ _ _ _ _ z1 g1 w1 (((s.mono g1.jj).set i r1).set j r3)⟩
  · exact False.elim z1
theorem ds_expr (he : DE W X K e te) (hs : swapsWith e none pos.line X.env = pure false := by rfl) : DSt W X K (.Expr e pos) (dDrop te) := by
  obtain ⟨r, p, k⟩ := he
  exact ⟨_, ps_expr p hs, fun D DD σ H J ω ρ w s cs z => k σ H J ω ρ _ _ _ w s (fun d ω1 v J1 H1 z1 g1 w1 rp => cs.nx _ _ _ _ _ z1 g1 w1 (s.mono g1.jj)) (cs.x s) z⟩
theorem ds_ret (he : DE W X K e te) : DSt W X K (.Return (some e) pos) (dRet te) := by
  obtain ⟨r, p, k⟩ := he
  exact ⟨_, ps_ret p, fun D DD σ H J ω ρ w s cs z => k σ H J ω ρ _ _ _ w s cs.rt (cs.x s) z⟩
theorem ds_retN : DSt W X K (.Return none pos) dRetN := ⟨_, ps_retN, fun D DD σ H J ω ρ w s cs z => cs.rt _ _ _ _ _ z Grow.refl w .non⟩
theorem ds_pass : DSt W X K (.Pass pos) dNext := ⟨_, ps_pass, fun D DD σ H J ω ρ w s cs z => cs.nx _ _ _ _ _ z Grow.refl w s⟩
theorem ds_doc {x j pos'} : DSt W X K (.Expr (.Constant (.str x) j pos) pos') dNext := ⟨_, ps_doc, fun D DD σ H J ω ρ w s cs z => cs.nx _ _ _ _ _ z Grow.refl w s⟩
theorem ds_break : DSt W X K (.Break pos) dBreak := ⟨_, ps_break, fun D DD σ H J ω ρ w s cs z => cs.bk _ _ _ _ _ z Grow.refl w s⟩
theorem ds_continue : DSt W X K (.Continue pos) dCont := ⟨_, ps_continue, fun D DD σ H J ω ρ w s cs z => cs.ct _ _ _ _ _ z Grow.refl w s⟩
theorem ds_if (hc : DT W X K c tc) (ha : DSs W X K a t) (hb : DSs W X K b u) : DSt W X K (.If c a b pos) (dIfS tc t u) := by
  obtain ⟨rc, pc, kc⟩ := hc
  obtain ⟨ra, pa, ka⟩ := ha
  obtain ⟨rb, pb, kb⟩ := hb
  refine ⟨_, ps_if pc pa pb, fun D DD σ H J ω ρ w s cs z => kc σ H J ω ρ _ _ _ w s (fun bb ω1 J1 H1 z1 g1 w1 => ?_) (cs.x s) z⟩
  cases bb with
  | true => exact iteT (ka D DD σ H1 J1 ω1 ρ w1 (s.mono g1.jj) (cs.step g1) (by simpa using z1))
  | false => exact iteF (kb D DD σ H1 J1 ω1 ρ w1 (s.mono g1.jj) (cs.step g1) (by simpa using z1))
theorem ds_for (hp : PassesOwn (model X.prog X.w) X.A X.env X.xe) (hc : X.calm = true) (hi : DI W X K tg iter di) (hg : DG X K tg is gd) (hb : DSs W X K body t) (hs : ∀ x, foldedSetIterable iter X.env x = pure x := by intro _; rfl) :
    DSt W X K (.For tg iter body [] pos) (dFor di gd t) := by
  obtain ⟨wi, pi, ki⟩ := hi
  obtain ⟨rb, pb, kb⟩ := hb
  refine ⟨_, ps_for hp hc pi hg pb hs, fun D DD σ H J ω ρ w s cs z => ki σ H J ω ρ _ _ _ w s (fun xs ω1 J1 H1 I z1 g1 w1 wd => ?_) (cs.x s) z⟩
  obtain ⟨Inv, i0, step, fin⟩ := z1
  obtain ⟨G, Y, wk, hG, hY⟩ := wd
  have cs1 := cs.step g1
  refine for_it wk (fun i σ' H' => ∃ J' ρ' ω', Grow J1 H1 ω1 J' H' ω' ∧ Rw K J' H' ω' ∧ Sl K J' σ' ρ' ∧ Inv i ρ' ω') ⟨J1, ρ, ω1, Grow.refl, w1, s.mono g1.jj, i0⟩ ?_ ?_ ?_
  · rintro i σ' H' _ ⟨J', ρ', ω', g, w', _⟩
    exact hG J' H' g.jj w'.jh
  · rintro i v σ2 H2 H2' hi ⟨J2, ρ2, ω2, g2, w2, s2, inv⟩ y
    have go : ∀ (d : PyData) (J3 H3 : Hp), xs[i]? = some d → Grow J2 H2 ω2 J3 H3 ω2 → Rw K J3 H3 ω2 → Rp K J3 v d → liftG K is gd v σ2 H3 fun σ2 H2 => rb { D with nx := fun σ' H' => ∃ J' ρ' ω', Grow J1 H1 ω1 J' H' ω' ∧ Rw K J' H' ω' ∧ Sl K J' σ' ρ' ∧ Inv (i + 1) ρ' ω', ct := fun σ' H' => ∃ J' ρ' ω', Grow J1 H1 ω1 J' H' ω' ∧ Rw K J' H' ω' ∧ Sl K J' σ' ρ' ∧ Inv (i + 1) ρ' ω', bk := D.nx } σ2 H2 := by
      intro d J3 H3 e3 g3 w3 r3
      refine ⟨J3, ω2, ρ2, d, _, w3, s2.mono g3.jj, r3, fun ρ' σ' z4 s4 _ => ?_, step i d ρ2 ω2 e3 inv⟩
      have g := g2.trans g3
      have cs3 := cs1.step g
      exact kb _ { DD with nx := Inv (i + 1), ct := Inv (i + 1), bk := DD.nx } σ' H3 J3 ω2 ρ' w3 s4 ⟨fun ρ5 ω5 σ5 J5 H5 z5 g5 w5 s5 => ⟨J5, ρ5, ω5, g.trans g5, w5, s5, z5⟩, cs3.nx, fun ρ5 ω5 σ5 J5 H5 z5 g5 w5 s5 => ⟨J5, ρ5, ω5, g.trans g5, w5, s5, z5⟩, cs3.rt, cs3.xc⟩ z4
    rcases hY i H2 v H2' hi y with ⟨rfl, d, e1, e2⟩ | ⟨T, us2, ds, rfl, hT, rfl, e1, e2⟩
    · exact go d J2 _ e1 Grow.refl w2 (rp_mono g2.jj _ _ e2)
    · exact go (.tuple ds) _ _ e2 (Grow.frz w2 hT _) (w2.frz hT _) (.tup (SqT.of upd_same) (rpAll_mono (g2.jj.trans (same_new (w2.jh.free hT) _)) _ _ e1))
  · rintro σ2 H2 ⟨J2, ρ2, ω2, g2, w2, s2, inv⟩
    exact cs1.nx _ _ _ _ _ (fin ρ2 ω2 inv) g2 w2 s2
theorem ds_setLc {i : Nat} {y : Str} {py spos : Pos} {elt : Expr} {ifs : List Expr} {scope : Scope} {own : List (Str × Nat)} {tt : DTT} (hc : X.calm = true) (hN : X.N.Nodup) (hy : X.N[i]? = some y) (hyl : X.env.scope.names.lookup y = some .local)
    (hsw : swapsWith (.ListComp elt [⟨tg, iter, ifs, 0⟩] scope pos) (some (.Name y py)) spos.line X.env = pure true) (hi : DI W X K tg iter di) (ok : BlkOk X.N X.env.scope scope own)
    (hg : ∀ (s : Shared) (H : Hp) (C : Addr) (cl : List (Str × Addr)) (fp : List Addr), DG (X.blk s H scope (compEnvC scope cl C X.env) fp) K tg is gd)
    (ht : ∀ (s : Shared) (H : Hp) (C : Addr) (cl : List (Str × Addr)) (fp : List Addr), DTs W0 (X.blk s H scope (compEnvC scope cl C X.env) fp) K ifs tt)
    (he : ∀ (s : Shared) (H : Hp) (C : Addr) (cl : List (Str × Addr)) (fp : List Addr), DE W0 (X.blk s H scope (compEnvC scope cl C X.env) fp) K elt te)
    (his : ∀ i ∈ is, i ∈ own.map (·.2) := by decide) (hs : ∀ x, foldedSetIterable iter X.env x = pure x := by intro _; rfl) :
    DSt W X K (.Assign [.Name y py] (.ListComp elt [⟨tg, iter, ifs, 0⟩] scope pos) spos) (dSet i (dLc di gd tt te (own.map (·.2)))) := by
  obtain ⟨wi, p, k⟩ := hi
  refine ⟨_, ps_setLc hc hN hy hyl hsw p ok hg (fun s H C cl fp => (ht s H C cl fp).ps) (fun s H C cl fp => (he s H C cl fp).pe) hs, fun D DD σ H J ω ρ w s cs z => lc_run (q := fun r ω1 => DD.nx (ρ.set i (some r)) ω1) k his w s (fun d ω1 v J1 H1 z1 g1 w1 rp => ?_) (cs.x s) z⟩
  exact cs.nx _ _ _ _ _ z1 g1 w1 ((s.mono g1.jj).set i rp)
end
/-! ### lists of one's own -/
def dAppend (to te : DTE) (ρ : DS) (ω : Wd) (q : DQ) (x : DXK) : Prop := to ρ ω (fun o ω1 => ∃ a ds0, o = refD a ∧ ω1 a = some (.lst ds0) ∧ te ρ ω1 (fun r ω2 => ∃ ds, ω2 a = some (.lst ds) ∧ ds.length < sizeLine ∧ q .none (updW ω2 a (.lst (ds ++ [r])))) x) x
def dExtend (to te : DTE) (ρ : DS) (ω : Wd) (q : DQ) (x : DXK) : Prop := to ρ ω (fun o ω1 => ∃ a ds0, o = refD a ∧ ω1 a = some (.lst ds0) ∧ te ρ ω1 (fun r ω2 => ∃ ds es, ω2 a = some (.lst ds) ∧ rsv ω2 r = .list es ∧ ds.length + es.length ≤ sizeLine ∧ q .none (updW ω2 a (.lst (ds ++ es)))) x) x
/-- a name whose list is not changed any more -/
def dFrz (i : Nat) (ρ : DS) (ω : Wd) (q : DQ) (_ : DXK) : Prop := match ρ[i]? with
  | some (some d) => ∃ a ds, d = refD a ∧ ω a = some (.lst ds) ∧ q (.list ds) (delW ω a)
  | _ => False
section
variable {W : WX} {X : Cx} {K : PySem.W.Frag} {o e : Expr} {to te : DTE} {apos cpos : Pos}
theorem rp_ref {J : Hp} {v : V} {a : Addr} (h : Rp K J v (refD a)) : v = .ref a := by
  generalize hd : refD a = d at h
  cases h with
  | ref b =>
    have e1 := PyData.dict.inj hd
    have e2 := (List.cons.inj e1).1
    have e3 := (Prod.mk.inj e2).1
    have e4 := PyData.int.inj e3
    rw [show a = b from by exact_mod_cast e4]
  | _ => cases hd
theorem de_append (hK : X.K = K) (ho : DE W X K o to) (he : DE W X K e te) (hbase : attributeBase o "append" X.env (eval o X.env) = eval o X.env := by rfl)
    (hfew : ((backTo cpos (starEach (e :: []) X.env)).all (fun x => !x.1) && (backToKw cpos (keywordEach [] X.env)).all (fun x => x.1.isSome) && decide ((e :: []).length + ([] : List Keyword).length + (if ([] : List Keyword).isEmpty then 0 else 1) < 30)) = true := by rfl)
    (hline : (apos.endLine == cpos.line) = true := by rfl) (hs : starEach (e :: []) X.env = (false, eval e X.env) :: starEach [] X.env := by rfl) (hplain : (backTo cpos (starEach [] X.env)).any (·.1) = false := by rfl) :
    DE W X K (.Call (.Attribute o "append" apos) [e] [] cpos) (dAppend to te) := by
  subst hK
  obtain ⟨ro, po, ko⟩ := ho
  obtain ⟨re, pe, ke⟩ := he
  refine ⟨_, pe_bm PySem.F.plainAttrs_list PySem.F.slot_list_append PySem.F.type_list_append mt_append po (pa_cons pe pa_nil hs) hbase hfew hline hs hplain, fun σ H J ω ρ q x Q w s cq cx z => ko σ H J ω ρ _ x _ w s (fun r ω1 v J1 H1 z1 g1 w1 rp => ?_) cx z⟩
  obtain ⟨a, ds0, rfl, e1, z1⟩ := z1
  obtain rfl := rp_ref rp
  obtain ⟨vs0, h0, _⟩ := w1.cell a _ e1
  refine ⟨.inl ⟨rfl, _, SqL.of h0⟩, ke σ H1 J1 ω1 ρ _ x _ w1 (s.mono g1.jj) (fun r2 ω2 v2 J2 H2 z2 g2 w2 rp2 => ?_) (cx.step g1) z1⟩
  obtain ⟨ds, e2, hl, z2⟩ := z2
  obtain ⟨vs, h2, r2'⟩ := w2.cell a _ e2
  exact ⟨a, vs, v2, rfl, rfl, h2, by rw [r2'.length]; exact hl, cq _ _ _ _ _ z2 ((g1.trans g2).trans (Grow.set e2 rfl _)) (w2.set e2 rfl ⟨_, upd_same, r2'.append (.one rp2)⟩) .non⟩
theorem de_extend (hK : X.K = K) (ho : DE W X K o to) (he : DE W X K e te) (hbase : attributeBase o "extend" X.env (eval o X.env) = eval o X.env := by rfl)
    (hfew : ((backTo cpos (starEach (e :: []) X.env)).all (fun x => !x.1) && (backToKw cpos (keywordEach [] X.env)).all (fun x => x.1.isSome) && decide ((e :: []).length + ([] : List Keyword).length + (if ([] : List Keyword).isEmpty then 0 else 1) < 30)) = true := by rfl)
    (hline : (apos.endLine == cpos.line) = true := by rfl) (hs : starEach (e :: []) X.env = (false, eval e X.env) :: starEach [] X.env := by rfl) (hplain : (backTo cpos (starEach [] X.env)).any (·.1) = false := by rfl) :
    DE W X K (.Call (.Attribute o "extend" apos) [e] [] cpos) (dExtend to te) := by
  subst hK
  obtain ⟨ro, po, ko⟩ := ho
  obtain ⟨re, pe, ke⟩ := he
  refine ⟨_, pe_bm PySem.F.plainAttrs_list PySem.F.slot_list_extend PySem.F.type_list_extend mt_extend po (pa_cons pe pa_nil hs) hbase hfew hline hs hplain, fun σ H J ω ρ q x Q w s cq cx z => ko σ H J ω ρ _ x _ w s (fun r ω1 v J1 H1 z1 g1 w1 rp => ?_) cx z⟩
  obtain ⟨a, ds0, rfl, e1, z1⟩ := z1
  obtain rfl := rp_ref rp
  obtain ⟨vs0, h0, _⟩ := w1.cell a _ e1
  refine ⟨.inl ⟨rfl, _, SqL.of h0⟩, ke σ H1 J1 ω1 ρ _ x _ w1 (s.mono g1.jj) (fun r2 ω2 v2 J2 H2 z2 g2 w2 rp2 => ?_) (cx.step g1) z1⟩
  obtain ⟨ds, es, e2, e3, hl, z2⟩ := z2
  obtain ⟨vs, h2, r2'⟩ := w2.cell a _ e2
  obtain ⟨b, ws, rfl, hb, r3⟩ := rp_list w2 rp2 e3
  exact ⟨a, b, vs, ws, rfl, rfl, h2, hb, by rw [r2'.length, r3.length]; exact hl, cq _ _ _ _ _ z2 ((g1.trans g2).trans (Grow.set e2 rfl _)) (w2.set e2 rfl ⟨_, upd_same, r2'.append r3⟩) .non⟩
theorem de_frz {i : Nat} (h : PE X e (tVar i)) : DE W X K e (dFrz i) := ⟨_, h, fun σ H J ω ρ q x Q w s cq cx z => by
  obtain ⟨v, d, h1, h2, z⟩ := s.var (q := fun d => ∃ a ds, d = refD a ∧ ω a = some (.lst ds) ∧ q (.list ds) (delW ω a)) z
  obtain ⟨a, ds, rfl, e1, z⟩ := z
  obtain rfl := rp_ref h2
  obtain ⟨vs, h3, h4⟩ := w.cell a _ e1
  exact ⟨_, h1, cq _ _ _ _ _ z (Grow.fix w e1 h3) (w.fix e1 h3) (.lst upd_same (rpAll_mono (same_new (w.out _ _ e1) _) _ _ h4))⟩⟩
end
/-- .. where cells that are not looked at any more are left -/
def SubW (ω2 ω1 : Wd) : Prop := ∀ a m, ω2 a = some m → ω1 a = some m
theorem SubW.refl {ω : Wd} : SubW ω ω := fun _ _ h => h
theorem SubW.upd {ω : Wd} {a : Addr} {m : MO} (h : ω a = none) : SubW ω (updW ω a m) := fun b n e => by
  rw [updW_ne fun z => by rw [z, h] at e; cases e]; exact e
theorem SubW.trans {ω1 ω2 ω3 : Wd} (h : SubW ω1 ω2) (g : SubW ω2 ω3) : SubW ω1 ω3 := fun a m e => g a m (h a m e)
def dRetS (te : DTE) (D : DEnds) (ρ : DS) (ω : Wd) : Prop := te ρ ω (fun r ω1 => ∃ ω2, SubW ω2 ω1 ∧ D.rt r ω2) (xcOf D ρ)
section
variable {K : PySem.W.Frag} {J H : Hp} {ω1 ω2 : Wd}
theorem fr_sub {b : Addr} (s : SubW ω2 ω1) (h : Fr ω1 b) : Fr ω2 b := by
  refine ⟨?_, fun c m e => h.2 c m (s _ _ e)⟩
  cases q : ω2 b with
  | none => rfl
  | some m => have := s b m q; rw [h.1] at this; cases this
theorem SubW.grow (s : SubW ω2 ω1) : Grow J H ω1 J H ω2 := ⟨Same.refl _, fun _ z => z, fun _ _ z _ => z, fun _ _ _ j => j, fun b _ z => fr_sub s z⟩
theorem Rw.sub (w : Rw K J H ω1) (s : SubW ω2 ω1) : Rw K J H ω2 := w.step (Same.refl _) w.jh (fun _ _ j => j) fun b m e => .inl ⟨s b m e, fun _ _ _ z => z⟩
theorem ds_retS {W : WX} {X : Cx} {e : Expr} {te : DTE} {pos : Pos} (he : DE W X K e te) : DSt W X K (.Return (some e) pos) (dRetS te) := by
  obtain ⟨r, p, k⟩ := he
  refine ⟨_, ps_ret p, fun D DD σ H J ω ρ w s cs z => k σ H J ω ρ _ _ _ w s (fun d ω1 v J1 H1 z1 g1 w1 rp => ?_) (cs.x s) z⟩
  obtain ⟨ω2, sb, z2⟩ := z1
  exact cs.rt _ _ _ _ _ z2 (g1.trans sb.grow) (w1.sub sb) rp
end
/-! ### intros -/
theorem ixD_cell {ω : Wd} {a : Addr} {xs : List PyData} {i : Int} {d : PyData} {Q : PyData → Prop} (h : ω a = some (.lst xs)) (e : atI xs i = some d) (z : Q d) : ixD (refD a) (.int i) ω Q := by
  unfold ixD
  rw [rsv_cell h]
  exact ⟨d, e, z⟩
theorem lenD_cell {ω : Wd} {a : Addr} {xs : List PyData} {Q : PyData → Prop} (h : ω a = some (.lst xs)) (z : Q (.int xs.length)) : lenD [refD a] ω Q := by
  unfold lenD
  simp only
  rw [rsv_cell h]
  exact z
/-! ### defs -/
abbrev DSp := List PyData → Wd → DQ → DXK → Prop
def spD (K : PySem.W.Frag) (sp : DSp) : Sp := fun vs H Q E => ∃ J ω ts q x, Rw K J H ω ∧ RpAll K J vs ts ∧ CovQ K J H ω q Q ∧ CovX K J H ω x E ∧ sp ts ω q x
def endsD (q : DQ) (x : DXK) : DEnds := ⟨fun _ ω => q .none ω, q, fun _ _ => False, fun _ _ => False, fun C fs _ ω => x C fs ω⟩
def dCall (sp : DSp) (ta : DTA) (ρ : DS) (ω : Wd) (q : DQ) (x : DXK) : Prop := ta ρ ω (fun ts ω1 => sp ts ω1 q X0) x
def dCallX (sp : DSp) (ta : DTA) (ρ : DS) (ω : Wd) (q : DQ) (x : DXK) : Prop := ta ρ ω (fun ts ω1 => sp ts ω1 q x) x
section
variable {P : Program} {w : World} {K : PySem.W.Frag} {mg : Str → Option Value} {base : Heap} {CX : CXT} {k : Nat} {x : Str} {ps N : List Str} {sp : DSp} {st : Stmt}
theorem dfnD (h : Has K mg x st) (B : Bi mg) (S : FnScope N ps (defScope st)) (bd : BindsBy x st ps) (len : ∀ ts ω q xx, sp ts ω q xx → ts.length = ps.length)
    (body : ∀ (f : Addr) (cv : Value) (A : Around) (out : List Env) (s : Shared) (H : Hp) (E : XK), Ct mg (A.deeper (envOfC x (defScope st) s.heap.objs.size f cv)) k →
      ∃ td, DSs W0 (cxOf CX0 P w K mg base N x (defScope st) f cv A out s H E).nox K (defBody st) td ∧ ∀ ts ω q xx, sp ts ω q xx → td (endsD q X0) (startD N ts) ω) :
    Dfn P w K mg base CX0 (k + 1) x ps (spD K sp) := by
  refine dfn0 h B S bd (fun vs H Q E z => ?_) (fun f cv A out s H vs Q E c z => ?_)
  · obtain ⟨J, ω, ts, q, xx, w, r, _, _, z⟩ := z
    rw [r.length]
    exact len _ _ _ _ z
  obtain ⟨J, ω, ts, q, xx, w, r, cq, cx, z⟩ := z
  obtain ⟨td, ⟨t, p, kk⟩, hb⟩ := body f cv A out s H E c
  exact ⟨t, p, kk _ _ _ H J ω _ w (sl_start r) ⟨fun _ _ _ _ _ z g w _ => cq _ _ _ _ _ z g w .non, fun _ _ _ _ _ z _ _ _ => False.elim z, fun _ _ _ _ _ z _ _ _ => False.elim z, cq, fun _ _ _ _ _ _ _ _ z _ _ _ _ => False.elim z⟩ (hb ts ω q xx z)⟩
theorem dfnDX (h : Has K mg x st) (B : Bi mg) (S : FnScope N ps (defScope st)) (bd : BindsBy x st ps) (len : ∀ ts ω q xx, sp ts ω q xx → ts.length = ps.length)
    (body : ∀ (f : Addr) (cv : Value) (A : Around) (out : List Env) (s : Shared) (H : Hp) (E : XK), Ct mg (A.deeper (envOfC x (defScope st) s.heap.objs.size f cv)) k →
      ∃ td, DSs (fun cl d _ H => E cl d H) (cxOf (L2.CX P w) P w K mg base N x (defScope st) f cv A out s H E) K (defBody st) td ∧ ∀ ts ω q xx, sp ts ω q xx → td (endsD q xx) (startD N ts) ω) :
    Dfn P w K mg base (L2.CX P w) (k + 1) x ps (spD K sp) := by
  refine dfnX h B S bd (fun vs H Q E z => ?_) (fun f cv A out s H vs Q E c z => ?_)
  · obtain ⟨J, ω, ts, q, xx, w, r, _, _, z⟩ := z
    rw [r.length]
    exact len _ _ _ _ z
  obtain ⟨J, ω, ts, q, xx, w, r, cq, cx, z⟩ := z
  obtain ⟨td, ⟨t, p, kk⟩, hb⟩ := body f cv A out s H E c
  exact ⟨t, p, kk _ _ _ H J ω _ w (sl_start r) ⟨fun _ _ _ _ _ z g w _ => cq _ _ _ _ _ z g w .non, fun _ _ _ _ _ z _ _ _ => False.elim z, fun _ _ _ _ _ z _ _ _ => False.elim z, cq, fun C fs _ ω' d _ J' H' z g w _ x => cx C fs ω' d J' H' z g w x⟩ (hb ts ω q xx z)⟩
/-- nothing is promised -/
theorem dfnD_none (h : Has K mg x st) (bd : BindsBy x st ps) (no : ∀ ts ω q xx, ¬ sp ts ω q xx) : Dfn P w K mg base CX0 0 x ps (spD K sp) :=
  dfn_none h bd fun vs H Q E z => by
    obtain ⟨J, ω, ts, q, xx, w, r, _, _, z⟩ := z
    exact no _ _ _ _ z
/-- a promise of another kind, for data -/
theorem Dfn.toD {sp0 : Sp} (D : Dfn P w K mg base CX k x ps sp0) (h : ∀ vs H Q E, spD K sp vs H Q E → sp0 vs H Q E) : Dfn P w K mg base CX k x ps (spD K sp) := by
  obtain ⟨f, fd, F, r⟩ := D
  exact ⟨f, fd, ⟨fun vs H Q E z => F.len _ _ _ _ (h _ _ _ _ z), fun A out s H ar us vs Q E ro g e b v z => F.run A out s H ar us vs Q E ro g e b v (h _ _ _ _ z)⟩, r⟩
end
section
variable {W : WX} {X : Cx} {K : PySem.W.Frag} {j k : Nat} {ps : List Str} {sp : DSp} {x : Str} {p pos : Pos} {e : Expr} {es : List Expr} {tA : DTA}
theorem de_d (D : Dfn X.prog X.w X.K X.mg X.base CX0 j x ps (spD K sp)) (c : Ct X.mg X.A k) (h : j ≤ k) (gl : Gl X x) (args : DAs W X K (e :: es) tA)
    (nd : (x == ("__debug__" : Str)) = false := by decide) (plain : starEach (e :: es) X.env = (false, eval e X.env) :: starEach es X.env := by rfl) (bare : (backTo pos (starEach es X.env)).any (·.1) = false := by rfl) :
    DE W X K (.Call (.Name x p) (e :: es) [] pos) (dCall sp tA) := by
  obtain ⟨t, pp, kk⟩ := args
  refine ⟨_, pe_d D c h gl pp nd plain bare, fun σ H J ω ρ q x Q w s cq cx z => kk σ H J ω ρ _ x _ w s (fun ts ω1 vs J1 H1 z1 g1 w1 rps => ?_) cx z⟩
  refine ⟨J1, ω1, ts, q, X0, w1, ?_, cq.step g1, (fun _ _ _ _ _ _ z => False.elim z), z1⟩
  rw [List.append_nil]
  exact rps
theorem de_dX (D : Dfn X.prog X.w X.K X.mg X.base (L2.CX X.prog X.w) j x ps (spD K sp)) (c : Ct X.mg X.A k) (h : j ≤ k) (gl : Gl X x) (out : ∀ σ, PassesAt (L2.CX X.prog X.w) X σ (fun cl d H => W cl d σ H)) (args : DAs W X K (e :: es) tA)
    (nd : (x == ("__debug__" : Str)) = false := by decide) (plain : starEach (e :: es) X.env = (false, eval e X.env) :: starEach es X.env := by rfl) (bare : (backTo pos (starEach es X.env)).any (·.1) = false := by rfl) :
    DE W X K (.Call (.Name x p) (e :: es) [] pos) (dCallX sp tA) := by
  obtain ⟨t, pp, kk⟩ := args
  refine ⟨_, pe_dS (E := fun σ cl d H => W cl d σ H) D c h gl out pp nd plain bare, fun σ H J ω ρ q x Q w s cq cx z => kk σ H J ω ρ _ x _ w s (fun ts ω1 vs J1 H1 z1 g1 w1 rps => ?_) cx z⟩
  exact ⟨J1, ω1, ts, q, x, w1, rps, cq.step g1, cx.step g1, z1⟩
end
/-! ### errors -/
def dErr1 (C : Addr) (f : Str) (te : DTE) (D : DEnds) (ρ : DS) (ω : Wd) : Prop := te ρ ω (fun r ω1 => D.xc C [(f, r)] ρ ω1) (xcOf D ρ)
section
variable {W : WX} {X : Cx} {K : PySem.W.Frag} {x f : Str} {C : Addr} {k : Nat} {e : Expr} {te : DTE} {p pos pos2 : Pos}
theorem ds_err1 (T : Err1 X.prog X.w X.K X.mg X.base x f C) (calm : X.calm = true) (room : Room (k + 2) X.A) (tk : Takes X W) (he : DE W X K e te) (gl : Gl X x)
    (nd : (x == ("__debug__" : Str)) = false := by decide) (plain : starEach (e :: []) X.env = (false, eval e X.env) :: starEach [] X.env := by rfl) (bare : (backTo pos (starEach [] X.env)).any (·.1) = false := by rfl) :
    DSt W X K (.Raise (some (.Call (.Name x p) [e] [] pos)) none pos2) (dErr1 C f te) := by
  obtain ⟨re, pe, ke⟩ := he
  refine ⟨_, ps_err1 T calm room tk (pa_cons pe pa_nil plain) gl nd plain bare, fun D DD σ H J ω ρ w s cs z => ke σ H J ω ρ _ _ _ w s (fun r ω1 v J1 H1 z1 g1 w1 rp => ?_) (cs.x s) z⟩
  refine err1 (C := C) (f := f) (v := v) (Q := fun cl d H => W cl d σ H) fun d hd => cs.xc _ _ _ _ (some d) _ J1 _ z1 (g1.trans (Grow.junk hd _)) (w1.junk hd _) (s.mono g1.jj) ⟨?_, w1.jh.free hd, w1.free hd, [(f, v)], upd_same, .cons ⟨rfl, rp⟩ .nil⟩
  cases q : H d with
  | none => rfl
  | some o => exact absurd hd (g1.dom d (by rw [q]; simp))
end
/-- the error's own dict comes among the cells -/
def XdIn (d : Option Addr) (fs : List (Str × PyData)) (ω ω' : Wd) : Prop := (d = none ∧ fs = [] ∧ ω' = ω) ∨ ∃ dd, d = some dd ∧ ω dd = none ∧ ω' = updW ω dd (.xd fs)
def dropX (d : Option Addr) (ω : Wd) : Wd := match d with
  | none => ω
  | some dd => delW ω dd
def liftS (K : PySem.W.Frag) (W : WX) (td : DTS) : TS := fun D σ H => ∃ J ω ρ DD, Rw K J H ω ∧ Sl K J σ ρ ∧ CovS K J H ω W DD D ∧ td DD ρ ω
theorem DSs.pss {W : WX} {X : Cx} {K : PySem.W.Frag} {st : List Stmt} {td : DTS} (h : DSs W X K st td) : PSs X st (liftS K W td) := by
  obtain ⟨t, p, k⟩ := h
  exact ⟨fun pins s σ H D I ⟨J, ω, ρ, DD, w, sl, cs, z⟩ => p.run pins s σ H D I (k D DD σ H J ω ρ w sl cs z)⟩
/-- try: .. except c as (slot i): .. -/
def dTryAs (K : PySem.W.Frag) (c : Value) (i : Nat) (tb : DTS) (ts : Addr → Value → Option Addr → DTS) (D : DEnds) (ρ : DS) (ω : Wd) : Prop :=
  tb { D with xc := fun C fs ρ' ω' => ∃ b, PySem.W.exmOne K (.ref C) c = some b ∧ (b = true → ∀ a d ω'', XdIn d fs ω' ω'' → ts a (.ref C) d
      { nx := fun ρ2 ω2 => D.nx (ρ2.set i none) (dropX d ω2), rt := fun r ω2 => D.rt r (dropX d ω2), bk := fun ρ2 ω2 => D.bk (ρ2.set i none) (dropX d ω2), ct := fun ρ2 ω2 => D.ct (ρ2.set i none) (dropX d ω2), xc := fun _ _ _ _ => False }
      (ρ'.set i (some (refD a))) ω'') ∧ (b = false → D.xc C fs ρ' ω') } ρ ω
theorem Grow.dropX {J H : Hp} {ω : Wd} {d : Option Addr} : Grow J H ω J H (Tx.dropX d ω) := by
  cases d with
  | none => exact Grow.refl
  | some dd => exact Grow.drop
theorem Rw.dropX {K : PySem.W.Frag} {J H : Hp} {ω : Wd} (w : Rw K J H ω) (d : Option Addr) : Rw K J H (Tx.dropX d ω) := by
  cases d with
  | none => exact w
  | some dd => exact w.drop
section
variable {W : WX} {X : Cx} {K : PySem.W.Frag} {x n : Str} {c : Value} {i : Nat} {body suite : List Stmt} {b₀ : Stmt} {np pos pos' : Pos} {tb : DTS} {ts : Addr → Value → Option Addr → DTS}
theorem ds_try_as (hK : X.K = K) (hs : X.stack = X.env :: X.outer) (hf : X.env.frame = some X.env.locals) (hN : X.N.Nodup) (hi : X.N[i]? = some n) (hln : X.env.kindOf n = some .local) (hc : Names X x c) (tk : Takes X W)
    (hb : ∀ (W' : WX) (pn : List (Addr × Obj)) (xe : Value → Shared → Prop), Takes (X.tr pn xe) W' → PassesOwn (model X.prog X.w) X.A X.env xe → DSs W' (X.tr pn xe) K body tb)
    (hsu : ∀ (a : Addr) (oe : Obj) (cls : Value) (d : Option Addr) (pn : List (Addr × Obj)), Zc cls d oe → (∃ vs, oe.data = .fields vs) → DSs W0 (X.suite a ((a, oe) :: pn)) K (b₀ :: suite) (ts a cls d)) :
    DSt W X K (.Try body [.ExceptHandler (some (.Name x np)) (some n) (b₀ :: suite) pos'] [] [] pos) (dTryAs K c i tb ts) := by
  subst hK
  refine ⟨_, ps_try_as (Wout := W) hs hf hN hi hln hc tk (fun W' pn xe t po => (hb W' pn xe t po).pss) (fun a oe cls d pn z f => (hsu a oe cls d pn z f).pss), fun D DD σ H J ω ρ w s cs z => ?_⟩
  refine ⟨J, ω, ρ, { DD with xc := fun C fs ρ' ω' => ∃ b, PySem.W.exmOne X.K (.ref C) c = some b ∧ (b = true → ∀ a d ω'', XdIn d fs ω' ω'' → ts a (.ref C) d
      { nx := fun ρ2 ω2 => DD.nx (ρ2.set i none) (dropX d ω2), rt := fun r ω2 => DD.rt r (dropX d ω2), bk := fun ρ2 ω2 => DD.bk (ρ2.set i none) (dropX d ω2), ct := fun ρ2 ω2 => DD.ct (ρ2.set i none) (dropX d ω2), xc := fun _ _ _ _ => False }
      (ρ'.set i (some (refD a))) ω'') ∧ (b = false → DD.xc C fs ρ' ω') }, w, s, ⟨cs.nx, cs.bk, cs.ct, cs.rt, fun C fs ρ' ω' d σ' J' H' z' g' w' s' xd => ?_⟩, z⟩
  obtain ⟨b, hb, h1, h2⟩ := z'
  refine ⟨b, hb, fun eb a ha => ?_, fun eb => cs.xc _ _ _ _ _ _ _ _ (h2 eb) g' w' s' xd⟩
  have main : ∀ ω'', Rw X.K J' H' ω'' → XdIn d fs ω' ω'' → (∀ {J2 H2 ω2}, Grow J' H' ω'' J2 H2 ω2 → Grow J H ω J2 H2 (dropX d ω2)) → liftS X.K W0 (ts a (.ref C) d) { nx := fun σ2 H2 => D.nx (σ2.set i none) H2, rt := D.rt, bk := fun σ2 H2 => D.bk (σ2.set i none) H2, ct := fun σ2 H2 => D.ct (σ2.set i none) H2 } (σ'.set i (some (.ref a))) H' := by
    intro ω'' w'' xin tr
    exact ⟨J', ω'', _, { nx := fun ρ2 ω2 => DD.nx (ρ2.set i none) (dropX d ω2), rt := fun r ω2 => DD.rt r (dropX d ω2), bk := fun ρ2 ω2 => DD.bk (ρ2.set i none) (dropX d ω2), ct := fun ρ2 ω2 => DD.ct (ρ2.set i none) (dropX d ω2), xc := fun _ _ _ _ => False }, w'', s'.set i (.ref a), ⟨fun ρ2 ω2 σ2 J2 H2 z2 g2 w2 s2 => cs.nx _ _ _ _ _ z2 (tr g2) (w2.dropX d) (s2.clear i none), fun ρ2 ω2 σ2 J2 H2 z2 g2 w2 s2 => cs.bk _ _ _ _ _ z2 (tr g2) (w2.dropX d) (s2.clear i none),
      fun ρ2 ω2 σ2 J2 H2 z2 g2 w2 s2 => cs.ct _ _ _ _ _ z2 (tr g2) (w2.dropX d) (s2.clear i none), fun r ω2 v J2 H2 z2 g2 w2 rp => cs.rt _ _ _ _ _ z2 (tr g2) (w2.dropX d) rp, (fun _ _ _ _ _ _ _ _ z _ _ _ _ => False.elim z)⟩, h1 eb a d ω'' xin⟩
  cases d with
  | none => exact main ω' w' (.inl ⟨rfl, xd, rfl⟩) fun g2 => g'.trans g2
  | some dd =>
    obtain ⟨n0, jD, oD, gs, hg, rf⟩ := xd
    refine main (updW ω' dd (.xd fs)) (w'.step (Same.refl _) w'.jh (fun _ _ j => j) fun b m e => ?_) (.inr ⟨dd, rfl, oD.1, rfl⟩) fun g2 => ?_
    · by_cases eb : b = dd
      · subst eb
        rw [updW_same] at e
        cases e
        refine .inr ⟨jD, ⟨gs, hg, rf⟩, fun b' pb => False.elim pb, fun c m' nc e => ?_⟩
        rw [updW_ne nc] at e
        exact ⟨oD.2 c m' e, fun b' pb => False.elim pb⟩
      · rw [updW_ne eb] at e; exact .inl ⟨e, fun _ _ _ z => z⟩
    · have ne : ∀ b, H b ≠ none → b ≠ dd := fun b h e => h (by rw [e]; exact n0)
      refine ⟨g'.jj.trans g2.jj, fun b h => g2.dom b (g'.dom b h), fun b o h y => ?_, fun b h y j => ?_, fun b h y => ?_⟩
      · have hb := ne b (by rw [h]; simp)
        exact g2.keep b o (g'.keep b o h y) (fr_upd rfl (g'.frw b (by rw [h]; simp) y) hb)
      · exact g2.frj b (g'.dom b h) (fr_upd rfl (g'.frw b h y) (ne b h)) (g'.frj b h y j)
      · exact fr_del (g2.frw b (g'.dom b h) (fr_upd rfl (g'.frw b h y) (ne b h)))
end
end Tx

namespace Tx
open PySem PySem.Spec PyProof.Rows L2
/-! ## More rules over data -/
def max2D : RD1 := fun xs _ Q => match xs with
  | [.int m, .int n] => Q (.int (if n > m then n else m))
  | _ => False
def min2D : RD1 := fun xs _ Q => match xs with
  | [.int m, .int n] => Q (.int (if n < m then n else m))
  | _ => False
section
variable {X : Cx} {K : PySem.W.Frag}
theorem rpAll2 {J : Hp} {vs : List V} {m n : Int} (h : RpAll K J vs [.int m, .int n]) : vs = [.int m, .int n] := by
  cases h with
  | cons h1 h2 => cases h2 with | cons h2 h3 => cases h3; cases h1; cases h2; rfl
theorem dc_max2 (hK : X.K = K) (hc : X.calm = true) : CallR X (.builtin "max") (liftA K max2D) := by
  intro pins s σ H xs us Q I rel h
  obtain ⟨J, ω, ds, q, w, hx, c, z⟩ := h
  unfold max2D at z
  split at z
  · obtain rfl := rpAll2 hx
    exact call_max2 hc pins s σ H _ us Q I rel ⟨_, _, rfl, c.now w z (.int _)⟩
  · exact False.elim z
theorem dc_min2 (hK : X.K = K) (hc : X.calm = true) : CallR X (.builtin "min") (liftA K min2D) := by
  intro pins s σ H xs us Q I rel h
  obtain ⟨J, ω, ds, q, w, hx, c, z⟩ := h
  unfold min2D at z
  split at z
  · obtain rfl := rpAll2 hx
    exact call_min2 hc pins s σ H _ us Q I rel ⟨_, _, rfl, c.now w z (.int _)⟩
  · exact False.elim z
end
/-- == of data, whatever it is -/
theorem full_str {ω : Wd} {a : Str} {d : PyData} (h : Full ω (.str a) d) : d = .str a := by
  rcases h with h | h
  · exact h.symm
  · simpa only [full] using h.symm
theorem full_int {ω : Wd} {a : Int} {d : PyData} (h : Full ω (.int a) d) : d = .int a := by
  rcases h with h | h
  · exact h.symm
  · simpa only [full] using h.symm
theorem eqv_str (a b : Str) : PyData.eqv (.str a) (.str b) = decide (a = b) := by
  simp only [PyData.eqv]
  by_cases h : a = b
  · rw [decide_eq_true h, h]; simp
  · rw [decide_eq_false h]; exact beq_eq_false_iff_ne.mpr h
theorem eqv_int (a b : Int) : PyData.eqv (.int a) (.int b) = decide (a = b) := by
  simp only [PyData.eqv]
  by_cases h : a = b
  · rw [decide_eq_true h, h]; simp
  · rw [decide_eq_false h]; exact beq_eq_false_iff_ne.mpr h
theorem eqD_of {ω : Wd} {x y d e : PyData} {Q : PyData → Prop} (f1 : Full ω x d) (f2 : Full ω y e) (s1 : SeqAt.shaped d = true) (s2 : SeqAt.shaped e = true) (z : Q (.bool (PyData.eqv d e))) : eqD x y ω Q := by
  unfold eqD
  split
  · rw [full_str f1, full_str f2, eqv_str] at z; exact z
  · rw [full_int f1, full_int f2, eqv_int] at z; exact z
  · exact ⟨d, e, f1, f2, s1, s2, z⟩
theorem neD_of {ω : Wd} {x y d e : PyData} {Q : PyData → Prop} (f1 : Full ω x d) (f2 : Full ω y e) (s1 : SeqAt.shaped d = true) (s2 : SeqAt.shaped e = true) (z : Q (.bool (!PyData.eqv d e))) : neD x y ω Q := by
  unfold neD
  split
  · rw [full_str f1, full_str f2, eqv_str] at z; exact z
  · rw [full_int f1, full_int f2, eqv_int] at z; exact z
  · exact ⟨d, e, f1, f2, s1, s2, z⟩
/-- a text that is the same -/
theorem ne_same {a : Str} {A B : Prop} (h : B) : if (!decide (a = a)) = true then A else B := by rw [decide_eq_true rfl]; exact iteF h
/-! ### the error that a suite holds -/
def dXf (a : Addr) (cls : Value) (d : Option Addr) (C : Addr) (f : Str) (te : DTE) (ρ : DS) (ω : Wd) (q : DQ) (x : DXK) : Prop := te ρ ω (fun r ω1 => r = refD a ∧ cls = .ref C ∧ ∃ dd fs v, d = some dd ∧ ω1 dd = some (.xd fs) ∧ fs.lookup f = some v ∧ q v ω1) x
def dIsX (K : PySem.W.Frag) (a : Addr) (cls : Value) (d : Option Addr) (D C : Addr) (te : DTE) (ρ : DS) (ω : Wd) (q : DQ) (x : DXK) : Prop := te ρ ω (fun r ω1 => r = refD a ∧ cls = .ref D ∧ (∀ dd, d = some dd → ∃ fs, ω1 dd = some (.xd fs)) ∧ ∃ b, PySem.W.kitOne K (.ref D) (.ref C) = some b ∧ q (.bool b) ω1) x
theorem rpf_lookup {K : PySem.W.Frag} {J : Hp} {f : Str} {v : PyData} : ∀ {gs : List (Str × V)} {fs : List (Str × PyData)}, RpF K J gs fs → fs.lookup f = some v → ∃ u, gs.lookup f = some u ∧ Rp K J u v
  | _, _, .nil, e => by simp at e
  | (g, u) :: gs, (k, y) :: fs, .cons h t, e => by
    obtain ⟨h1, h2⟩ := h
    simp only at h1 h2
    subst h1
    rw [List.lookup_cons] at e ⊢
    split at e
    · rename_i hf
      cases e
      exact ⟨u, by simp [hf], h2⟩
    · rename_i hf
      obtain ⟨u2, e1, e2⟩ := rpf_lookup t e
      exact ⟨u2, by simp [hf, e1], e2⟩
section
variable {W : WX} {X : Cx} {K : PySem.W.Frag} {a D C C2 : Addr} {oe : Obj} {cls : Value} {d : Option Addr} {pn : List (Addr × Obj)} {e t : Expr} {te : DTE} {pos p : Pos} {n : Str}
theorem de_xf (hK : X.K = K) (T : XfC X.K C) (hno : PySem.W.findIn X.K (.ref C) n = some none) (hz : Zc cls d oe) (hf : ∃ vs, oe.data = .fields vs) (he : DE W (X.suite a ((a, oe) :: pn)) K e te) (hb : attributeBase e n X.env (eval e X.env) = eval e X.env := by rfl) :
    DE W (X.suite a ((a, oe) :: pn)) K (.Attribute e n pos) (dXf a cls d C n te) := by
  obtain ⟨r, pe, k⟩ := he
  refine ⟨_, pe_xf T hno hz hf pe hb, fun σ H J ω ρ q x Q w s cq cx z => k σ H J ω ρ _ x _ w s (fun rr ω1 v J1 H1 z1 g1 w1 rp => ?_) cx z⟩
  obtain ⟨rfl, ec, dd, fs, y, ed, eω, el, z2⟩ := z1
  obtain rfl := rp_ref rp
  obtain ⟨gs, hg, rf⟩ := w1.cell dd _ eω
  obtain ⟨u, e1, e2⟩ := rpf_lookup rf el
  exact ⟨rfl, ec, dd, gs, u, ed, hg, e1, (cq.step g1).now w1 z2 e2⟩
theorem de_isX (hK : X.K = K) (CC : ExcC X.K D) (hz : Zc cls d oe) (hf : ∃ vs, oe.data = .fields vs) (hg : Gl (X.suite a ((a, oe) :: pn)) "isinstance") (hm : X.mg "isinstance" = none) (he : DE W (X.suite a ((a, oe) :: pn)) K e te) (ht : PE (X.suite a ((a, oe) :: pn)) t (tC (.ref C2)))
    (h1 : starEach (e :: [t]) X.env = (false, eval e X.env) :: starEach [t] X.env := by rfl) (h2 : starEach [t] X.env = (false, eval t X.env) :: starEach [] X.env := by rfl) (hpl : (backTo pos (starEach [t] X.env)).any (·.1) = false := by rfl) :
    DE W (X.suite a ((a, oe) :: pn)) K (.Call (.Name "isinstance" p) [e, t] [] pos) (dIsX K a cls d D C2 te) := by
  subst hK
  obtain ⟨r, pe, k⟩ := he
  refine ⟨_, pe_callB (call_isX CC hz hf) hg hm (by decide +kernel) (pa_cons pe (pa_cons ht pa_nil h2) h1) (by decide) (by decide) h1 hpl, fun σ H J ω ρ q x Q w s cq cx z => k σ H J ω ρ _ x _ w s (fun rr ω1 v J1 H1 z1 g1 w1 rp => ?_) cx z⟩
  obtain ⟨rfl, ec, hd, b, kb, z2⟩ := z1
  obtain rfl := rp_ref rp
  refine ⟨_, _, b, rfl, ec, .own C2, kb, fun dd e => ?_, (cq.step g1).now w1 z2 (.bl _)⟩
  obtain ⟨fs, eω⟩ := hd dd e
  obtain ⟨gs, hg, _⟩ := w1.cell dd _ eω
  exact ⟨gs, hg⟩
end
end Tx

namespace Tx
open PySem PySem.Spec PyProof.Rows L2
/-! ## New things; the law's own def -/
/-- v is data d, or a new list, of new lists, that stands for d -/
def Tm (ω : Wd) (v d : PyData) (ω' : Wd) : Prop := (isL d = false ∧ v = d ∧ ω' = ω) ∨ ∃ a N, v = refD a ∧ ω a = none ∧ ω' = updW ω a (.tmp N d) ∧ isL d = true
/-- such a thing becomes data -/
def Fz (v : PyData) (ω1 : Wd) (d : PyData) (ω2 : Wd) : Prop := (v = d ∧ ω2 = ω1) ∨ ∃ a N, v = refD a ∧ ω1 a = some (.tmp N d) ∧ ω2 = delW ω1 a
theorem Tm.fz {ω ω' : Wd} {v d : PyData} (h : Tm ω v d ω') : Fz v ω' d ω := by
  rcases h with ⟨_, h1, h2⟩ | ⟨a, N, h1, h2, h3, _⟩
  · exact .inl ⟨h1, h2.symm⟩
  · exact .inr ⟨a, N, h1, by rw [h3, updW_same], by rw [h3, delW_updW h2]⟩
theorem Tm.full {ω ω' : Wd} {v d : PyData} (h : Tm ω v d ω') : Full ω' v d := by
  rcases h with ⟨_, h1, h2⟩ | ⟨a, N, h1, h2, h3, _⟩
  · exact .inl h1
  · rw [h1]; exact Full.tmp (N := N) (by rw [h3, updW_same])
def dFz (te : DTE) (ρ : DS) (ω : Wd) (q : DQ) (x : DXK) : Prop := te ρ ω (fun v ω1 => ∃ d ω2, Fz v ω1 d ω2 ∧ q d ω2) x
theorem de_fz {W : WX} {X : Cx} {K : PySem.W.Frag} {e : Expr} {td : DTE} (h : DE W X K e td) : DE W X K e (dFz td) := by
  obtain ⟨t, p, k⟩ := h
  refine ⟨t, p, fun σ H J ω ρ q x Q w s cq cx z => k σ H J ω ρ _ x _ w s (fun v ω1 u J1 H1 z1 g1 w1 r => ?_) cx z⟩
  obtain ⟨d, ω2, f, z2⟩ := z1
  rcases f with ⟨rfl, rfl⟩ | ⟨a, N, rfl, e1, rfl⟩
  · exact cq _ _ _ _ _ z2 g1 w1 r
  · obtain rfl := rp_ref r
    obtain ⟨_, rN, _⟩ := w1.cell a _ e1
    exact cq _ _ _ _ _ z2 (g1.trans (grow_thaw w1 e1)) (rw_thaw w1 e1) (rp_mono same_joinN _ _ rN)
section
variable {K : PySem.W.Frag} {J J' H H' : Hp} {ω : Wd} {b : Addr}
theorem gro_grow (w : Rw K J H ω) (hb : ω b = some .bag) (g : Gro b J H J' H') : Grow J H ω J' H' ω ∧ Rw K J' H' ω := by
  have hB : Bag H b := w.cell b _ hb
  have ne : ∀ a, Fr ω a → a ≠ b := fun a z e => by have := z.1; rw [e, hb] at this; cases this
  constructor
  · exact ⟨g.jj, fun a h => g.st.there hB h, fun a o h z => g.st.keep a o (ne a z) h, fun a h _ j => g.fr a h j, fun _ _ z => z⟩
  · refine w.step g.jj g.jh g.fr fun a m e => ?_
    by_cases z : a = b
    · subst z
      rw [hb] at e
      cases e
      exact .inr ⟨g.fr a (w.there hb) (w.out a _ hb), g.st.bag, fun b' pb => False.elim pb, fun c m' nc e => ⟨w.apart hb nc e, fun b' pb => False.elim pb⟩⟩
    · refine .inl ⟨e, fun b' o l h => g.st.keep b' o ?_ h⟩
      rintro rfl
      rcases l with rfl | nb
      · exact z rfl
      · exact w.apart hb z e nb
theorem stp_grow (w : Rw K J H ω) (hb : ω b = some .bag) (g : Stp b H H') : Grow J H ω J H' ω ∧ Rw K J H' ω := gro_grow w hb (g.gro (w.out b _ hb) w.jh)
end
section
variable {P : Program} {w : World} {K : PySem.W.Frag} {mg : Str → Option Value} {base : Heap}
theorem rp_int {J : Hp} {v : V} {i : Int} (h : Rp K J v (.int i)) : v = .int i := by cases h; rfl
theorem same_grow {J H H' : Hp} {ω : Wd} (w : Rw K J H ω) (s : Same H H') : Grow J H ω J H' ω ∧ Rw K J H' ω :=
  ⟨⟨Same.refl _, fun a h => by
    cases q : H a with
    | none => exact absurd q h
    | some o => rw [s _ _ q]; simp, fun a o h _ => s a o h, fun _ _ _ j => j, fun _ _ z => z⟩, w.step (Same.refl _) (w.jh.trans s) (fun _ _ j => j) fun a m e => .inl ⟨e, fun b o _ h => s b o h⟩⟩
theorem val_dp {J H : Hp} {v : V} {d : PyData} (s : Same J H) (r : Rp K J v d) (h : isVal d = true) : Dp K H v d := dp_mono s _ _ (rp_dp _ _ (fine_lay _ (val_fine _ h)) r)
/-- what a new thing of new lists is as a cell -/
theorem tm_cov {J H H' N : Hp} {ω : Wd} {q : DQ} {Q : VK} {v : V} {d : PyData} (w : Rw K J H ω) (g : Grow J H ω J H' ω) (w1 : Rw K J H' ω) (cq : CovQ K J H ω q Q) (nn : ∀ b, N b ≠ none → H b = none) (s : Same N H') (r : Rp K N v d) (val : isVal d = true)
    (z : ∀ u ω', Tm ω u d ω' → q u ω') : Q v H' := by
  cases r with
  | non => exact cq _ _ _ _ _ (z _ _ (.inl ⟨rfl, rfl, rfl⟩)) g w1 .non
  | str x => exact cq _ _ _ _ _ (z _ _ (.inl ⟨rfl, rfl, rfl⟩)) g w1 (.str x)
  | @lst a vs ds hs ha =>
    have na : N a ≠ none := by rw [hs]; simp
    have nh := nn a na
    exact cq _ _ _ _ _ (z _ _ (.inr ⟨a, N, rfl, (w.free nh).1, rfl, rfl⟩)) (grow_tmp (m := .tmp N _) g nn nh) (rw_tmp w w1 nn s (.lst hs ha) na) (.ref a)
  | bl _ => cases val
  | int _ => cases val
  | tup _ _ => cases val
  | ref _ => cases val
  | scr _ => cases val
  | pub _ => cases val
  | dic _ _ => cases val
  | obj _ _ => cases val
theorem gro_tm {J H H' N : Hp} {ω : Wd} {b : Addr} {q : DQ} {Q : VK} {v : V} {d : PyData} (w : Rw K J H ω) (hb : ω b = some .bag) (g : Gro b (fun _ => none) H N H') (cq : CovQ K J H ω q Q) (r : Rp K N v d) (val : isVal d = true) (z : ∀ u ω', Tm ω u d ω' → q u ω') : Q v H' := by
  obtain ⟨g2, w2⟩ := stp_grow w hb g.st
  refine tm_cov w g2 w2 cq (fun b nb => ?_) g.jh r val z
  cases q : H b with
  | none => rfl
  | some o => exact absurd (g.fr b (by rw [q]; simp) rfl) nb
/-! ### the law's own def -/
def spLaw (K : PySem.W.Frag) : Sp := fun vs H Q _ => ∃ (a : Addr) (ns : List Int), vs = [.ref a] ∧ SqL K H a (ns.map V.int) ∧ ns.length ≤ 63 ∧ ∀ H', Q (.bl true) H'
def dsLaw : DSp := fun ts ω q _ => ∃ (a : Addr) (ns : List Int), ts = [scrD a ns] ∧ ns.length ≤ 63 ∧ ω = (fun _ => none) ∧ ∀ ω', q (.bool true) ω'
theorem law_of {k : Nat} {ps : List Str} (D : Dfn P w K mg base CX0 k "law" ps (spD K dsLaw)) : Dfn P w K mg base CX0 k "law" ps (spLaw K) := by
  obtain ⟨f, fd, F, r⟩ := D
  have key : ∀ vs H Q E, spLaw K vs H Q E → spD K dsLaw vs H Q E := by
    rintro vs H Q E ⟨a, ns, rfl, hs, hl, q⟩
    refine ⟨H, fun _ => none, [scrD a ns], fun d _ => d = .bool true, X0, ⟨Same.refl _, (fun _ _ e => nomatch e), (fun _ _ e => nomatch e), (fun _ _ e => nomatch e)⟩, .cons (.scr hs) .nil, fun r ω' v J' H' z _ _ rp => ?_, (fun _ _ _ _ _ _ z => False.elim z), a, ns, rfl, hl, rfl, fun _ => rfl⟩
    subst z
    cases rp
    exact q H'
  exact ⟨f, fd, ⟨fun vs H Q E z => F.len _ _ _ _ (key _ _ _ _ z), fun A out s H ar us vs Q E ro g e b v z => F.run A out s H ar us vs Q E ro g e b v (key _ _ _ _ z)⟩, r⟩
end
end Tx

namespace Tx
open PySem PySem.Spec PyProof.Rows L2
/-! ## The law's draws over data -/
def dsTake : DSp := fun ts ω q _ => ∃ (b : Addr) (n : Int), ts = [refD b, .int n] ∧ ω b = some .bag ∧ 0 < n ∧ n < 1073741824 ∧ ∀ r : Int, 0 ≤ r → r < n → q (.int r) ω
def dsBag : DSp := fun ts ω q _ => ∃ (a : Addr) (ns : List Int) (i : Int), ts = [scrD a ns, .int i] ∧ 0 ≤ i ∧ i < 1000 ∧ ∀ b, ω b = none → q (refD b) (updW ω b .bag)
def dsText : DSp := fun ts ω q _ => ∃ (b : Addr) (m : Int), ts = [refD b, .int m] ∧ ω b = some .bag ∧ 0 ≤ m ∧ m < 1000 ∧ ∀ x : Str, ltr x = true → (x.length : Int) ≤ m → q (.str x) ω
def dsSize (n : Nat) : DSp := fun ts ω q _ => ∃ d, ts = [d] ∧ isVal d = true ∧ d.depth < n ∧ szD d ≤ 1000000 ∧ q (.int (szD d)) ω
def dsValue (n : Nat) : DSp := fun ts ω q _ => ∃ (b : Addr) (deep room : Int), ts = [refD b, .int deep, .int room] ∧ ω b = some .bag ∧ 0 ≤ deep ∧ deep < n ∧ 1 ≤ room ∧ room ≤ 1000 ∧ ∀ d, Val deep.toNat room.toNat d → q d ω
/-- .. of new lists that may be changed -/
def dsValueT (n : Nat) : DSp := fun ts ω q _ => ∃ (b : Addr) (deep room : Int), ts = [refD b, .int deep, .int room] ∧ ω b = some .bag ∧ 0 ≤ deep ∧ deep < n ∧ 1 ≤ room ∧ room ≤ 1000 ∧ ∀ d v ω', Val deep.toNat room.toNat d → Tm ω v d ω' → q v ω'
def dsGreat : DSp := fun ts ω q _ => ∃ b : Addr, ts = [refD b] ∧ ω b = some .bag ∧ ∀ d, Val 12 400 d → q d ω
def dsGreatT : DSp := fun ts ω q _ => ∃ b : Addr, ts = [refD b] ∧ ω b = some .bag ∧ ∀ d v ω', Val 12 400 d → Tm ω v d ω' → q v ω'
section
variable {P : Program} {w : World} {K : PySem.W.Frag} {mg : Str → Option Value} {base : Heap}
theorem dd_take (h : Has K mg "_law_take" sTake) (B : Bi mg) : Dfn P w K mg base CX0 1 "_law_take" ["_law_bag_here", "_law_many_here"] (spD K dsTake) := by
  refine (d_take h B).toD fun vs H Q E z => ?_
  obtain ⟨J, ω, ts, q, x, w, r, cq, cx, b, n, rfl, hb, n0, n1, z⟩ := z
  cases r with
  | cons r1 r2 => cases r2 with | cons r2 r3 =>
  cases r3
  obtain rfl := rp_ref r1
  obtain rfl := rp_int r2
  exact ⟨b, n, rfl, w.cell b _ hb, n0, n1, fun r H' r0 r1 st => cq _ _ _ _ _ (z r r0 r1) (stp_grow w hb st).1 (stp_grow w hb st).2 (.int _)⟩
theorem map_int_inj : ∀ {xs ys : List Int}, xs.map PyData.int = ys.map PyData.int → xs = ys
  | [], [], _ => rfl
  | [], _ :: _, h => by cases h
  | _ :: _, [], h => by cases h
  | x :: xs, y :: ys, h => by
    rw [List.map_cons, List.map_cons] at h
    obtain ⟨h1, h2⟩ := List.cons.inj h
    rw [PyData.int.inj h1, map_int_inj h2]
theorem dd_bag (h : Has K mg "_law_bag" sBag) (B : Bi mg) : Dfn P w K mg base CX0 1 "_law_bag" ["_law_script", "_law_at"] (spD K dsBag) := by
  refine (d_bag h B).toD fun vs H Q E z => ?_
  obtain ⟨J, ω, ts, q, x, w, r, cq, cx, a, ns, i, rfl, i0, i1, z⟩ := z
  cases r with
  | cons r1 r2 => cases r2 with | cons r2 r3 =>
  cases r3
  obtain rfl := rp_int r2
  have key : ∀ (d : PyData) (v : V), Rp K J v d → d = scrD a ns → v = .ref a ∧ SqL K J a (ns.map V.int) := by
    intro d v h e
    cases h with
    | @scr a' ns' hs =>
      have e1 := PyData.dict.inj e
      have e2 := (List.cons.inj e1).1
      obtain ⟨e3, e4⟩ := Prod.mk.inj e2
      have e5 := PyData.int.inj e3
      have e6 := PyData.list.inj e4
      have ea : a' = a := by exact_mod_cast e5
      have en : ns' = ns := map_int_inj e6
      subst ea en
      exact ⟨rfl, hs⟩
    | ref a' => cases e
    | _ => cases e
  obtain ⟨rfl, hs⟩ := key _ _ r1 rfl
  refine ⟨a, ns, i, rfl, w.jh.seq hs, i0, i1, fun b H' sm hn hB => ?_⟩
  have g0 : Grow J H ω J H' (updW ω b .bag) := ⟨Same.refl _, fun c hc => by
      cases qc : H c with
      | none => exact absurd qc hc
      | some o => rw [sm _ _ qc]; simp, fun c o hc _ => sm c o hc, fun _ _ _ j => j, fun c hc zc => fr_upd rfl zc (ne_new hc hn)⟩
  have fp := w.free hn
  refine cq _ _ _ _ _ (z b fp.1) g0 (w.step (Same.refl _) (w.jh.trans sm) (fun _ _ j => j) fun c m e => ?_) (.ref b)
  by_cases zc : c = b
  · subst zc
    rw [updW_same] at e
    cases e
    refine .inr ⟨w.jh.free hn, hB, fun b' pb => False.elim pb, fun c' m' nc e => ?_⟩
    rw [updW_ne nc] at e
    exact ⟨fp.2 c' m' e, fun b' pb => False.elim pb⟩
  · rw [updW_ne zc] at e
    exact .inl ⟨e, fun b' o _ h => sm b' o h⟩
end
end Tx

namespace Tx
open PySem PySem.Spec PyProof.Rows L2
/-! ## the drawn texts and values as data -/
section
variable {P : Program} {w : World} {K : PySem.W.Frag} {mg : Str → Option Value} {base : Heap}
theorem dd_text (h : Has K mg "_law_text" sText) (B : Bi mg) (D_law_take : Dfn P w K mg base CX0 1 "_law_take" ["_law_bag_here", "_law_many_here"] spTake) : Dfn P w K mg base CX0 2 "_law_text" ["_law_bag_here", "_law_most"] (spD K dsText) := by
  refine (d_text h B D_law_take).toD fun vs H Q E z => ?_
  obtain ⟨J, ω, ts, q, x, w, r, cq, cx, b, n, rfl, hb, n0, n1, z⟩ := z
  cases r with
  | cons r1 r2 => cases r2 with | cons r2 r3 =>
  cases r3
  obtain rfl := rp_ref r1
  obtain rfl := rp_int r2
  exact ⟨b, n, rfl, w.cell b _ hb, n0, n1, fun r H' r0 r1 st => cq _ _ _ _ _ (z r r0 r1) (stp_grow w hb st).1 (stp_grow w hb st).2 (.str _)⟩
theorem dd_size (h : Has K mg "_law_size" sSize) (B : Bi mg) (n : Nat) : Dfn P w K mg base CX0 n "_law_size" ["_law_value_here"] (spD K (dsSize n)) := by
  refine (d_size h B n).toD fun vs H Q E z => ?_
  obtain ⟨J, ω, ts, q, x, w, r, cq, cx, d, rfl, val, dn, sz, z⟩ := z
  cases r with
  | cons r1 r2 =>
  cases r2
  exact ⟨_, d, rfl, val_dp w.jh r1 val, val, dn, sz, fun H' sm => cq _ _ _ _ _ z (same_grow w sm).1 (same_grow w sm).2 (.int _)⟩
theorem dd_value {n : Nat} (D : Dfn P w K mg base CX0 (n + 20) "_law_value" ["_law_bag_here", "_law_deep", "_law_room"] (spValue K n)) : Dfn P w K mg base CX0 (n + 20) "_law_value" ["_law_bag_here", "_law_deep", "_law_room"] (spD K (dsValue n)) := by
  refine D.toD fun vs H Q E z => ?_
  obtain ⟨J, ω, ts, q, x, w, r, cq, cx, b, deep, room, rfl, hb, d0, d1, r0, r1, z⟩ := z
  cases r with
  | cons ra r2 => cases r2 with | cons rb r3 => cases r3 with | cons rc r4 =>
  cases r4
  obtain rfl := rp_ref ra
  obtain rfl := rp_int rb
  obtain rfl := rp_int rc
  exact ⟨b, J, deep, room, rfl, w.cell b _ hb, w.out b _ hb, w.jh, d0, d1, r0, r1, fun v d J' H' g r vd => cq _ _ _ _ _ (z d vd) (gro_grow w hb g).1 (gro_grow w hb g).2 r⟩
theorem dd_valueT {n : Nat} (D : Dfn P w K mg base CX0 (n + 20) "_law_value" ["_law_bag_here", "_law_deep", "_law_room"] (spValue K n)) : Dfn P w K mg base CX0 (n + 20) "_law_value" ["_law_bag_here", "_law_deep", "_law_room"] (spD K (dsValueT n)) := by
  refine D.toD fun vs H Q E z => ?_
  obtain ⟨J, ω, ts, q, x, w, r, cq, cx, b, deep, room, rfl, hb, d0, d1, r0, r1, z⟩ := z
  cases r with
  | cons ra r2 => cases r2 with | cons rb r3 => cases r3 with | cons rc r4 =>
  cases r4
  obtain rfl := rp_ref ra
  obtain rfl := rp_int rb
  obtain rfl := rp_int rc
  exact ⟨b, fun _ => none, deep, room, rfl, w.cell b _ hb, rfl, (fun _ _ e => nomatch e), d0, d1, r0, r1, fun v d J' H' g r vd => gro_tm w hb g cq r vd.val fun u ω' t => z d u ω' vd t⟩
end
end Tx

namespace Tx
open PySem PySem.Spec PyProof.Rows L2
/-! ## The first place at which something is no value -/
/-- a place, as a tuple of numbers -/
def plD (p : List Nat) : PyData := .tuple (p.map fun (n : Nat) => PyData.int (n : Int))
mutual
def wrongP : PyData → Option (List Nat)
  | .none => none
  | .str x => if ltr x = true then none else some []
  | .list xs => wrongAll 0 xs
  | _ => some []
def wrongAll (i : Nat) : List PyData → Option (List Nat)
  | [] => none
  | x :: xs => match wrongP x with
    | some p => some (i :: p)
    | none => wrongAll (i + 1) xs
end
def isTxt : PyData → Bool
  | .str x => ltr x
  | _ => false
theorem wrongAll_drop {ds : List PyData} {i : Nat} {d : PyData} (h : ds[i]? = some d) (n : wrongP d = none) (e : wrongAll 0 ds = wrongAll i (ds.drop i)) : wrongAll 0 ds = wrongAll (i + 1) (ds.drop (i + 1)) := by
  have hi : i < ds.length := (List.getElem?_eq_some_iff.mp h).1
  rw [e, List.drop_eq_getElem_cons hi]
  have hd : ds[i] = d := by rw [List.getElem?_eq_getElem hi] at h; exact Option.some.inj h
  rw [hd]
  simp only [wrongAll, n]
theorem wrongAll_at {ds : List PyData} {i : Nat} {d : PyData} {p : List Nat} (h : ds[i]? = some d) (n : wrongP d = some p) (e : wrongAll 0 ds = wrongAll i (ds.drop i)) : wrongAll 0 ds = some (i :: p) := by
  have hi : i < ds.length := (List.getElem?_eq_some_iff.mp h).1
  rw [e, List.drop_eq_getElem_cons hi]
  have hd : ds[i] = d := by rw [List.getElem?_eq_getElem hi] at h; exact Option.some.inj h
  rw [hd]
  simp only [wrongAll, n]
mutual
theorem wrong_len : ∀ (d : PyData) (p : List Nat), wrongP d = some p → p.length ≤ d.depth
  | .none, p, h => by simp [wrongP] at h
  | .bool _, p, h => by simp only [wrongP] at h; cases h; simp
  | .int _, p, h => by simp only [wrongP] at h; cases h; simp
  | .tuple _, p, h => by simp only [wrongP] at h; cases h; simp
  | .dict _, p, h => by simp only [wrongP] at h; cases h; simp
  | .str x, p, h => by
    simp only [wrongP] at h
    split at h
    · cases h
    · cases h; simp
  | .list xs, p, h => by
    simp only [wrongP] at h
    have := wrongAll_len xs 0 p h
    simpa only [PyData.depth] using this
theorem wrongAll_len : ∀ (xs : List PyData) (i : Nat) (p : List Nat), wrongAll i xs = some p → p.length ≤ PyData.depthAll xs + 1
  | [], i, p, h => by simp [wrongAll] at h
  | x :: xs, i, p, h => by
    simp only [wrongAll] at h
    simp only [PyData.depthAll]
    cases e : wrongP x with
    | some q =>
      rw [e] at h
      cases h
      have := wrong_len x q e
      simp only [List.length_cons]
      omega
    | none =>
      rw [e] at h
      have := wrongAll_len xs (i + 1) p h
      omega
end
theorem abc_mem (c : Nat) : decide (c ∈ (("abcdefghijklmnopqrstuvwxyz" : Str)).cps.toList) = decide (97 ≤ c ∧ c ≤ 122) := by
  have e : (("abcdefghijklmnopqrstuvwxyz" : Str)).cps.toList = List.range' 97 26 := by decide +kernel
  rw [e]
  by_cases h : 97 ≤ c ∧ c ≤ 122
  · rw [decide_eq_true h, decide_eq_true (List.mem_range'_1.mpr ⟨h.1, by omega⟩)]
  · rw [decide_eq_false h, decide_eq_false fun z => h (by have := List.mem_range'_1.mp z; omega)]
/-- a thing that the texts take: shown well, not too deep -/
structure Thing (n m : Nat) (d : PyData) : Prop where
  fine : fine d = true
  deep : d.depth ≤ n
  wt : wt d ≤ m
theorem Thing.mono {n m n' m' : Nat} {d : PyData} (h : Thing n m d) (h1 : n ≤ n') (h2 : m ≤ m') : Thing n' m' d := ⟨h.fine, Nat.le_trans h.deep h1, Nat.le_trans h.wt h2⟩
theorem Thing.ok {n m : Nat} {d : PyData} (h : Thing n m d) (h1 : n ≤ 60) (h2 : m ≤ 16000000) : Ok d := ⟨h.fine, Nat.le_trans h.deep h1, Nat.le_trans h.wt h2⟩
theorem Val.thing {n m : Nat} {d : PyData} (h : Val n m d) : Thing n (12 * m) d := ⟨val_fine d h.val, h.deep, by have := val_wt d h.val; have := h.size; omega⟩
theorem Thing.item {n m : Nat} {ds : List PyData} (h : Thing n m (.list ds)) {d : PyData} (hd : d ∈ ds) : Thing (n - 1) m d := by
  have h1 := h.fine
  have h2 := h.deep
  have h3 := h.wt
  simp only [Tx.fine] at h1
  simp only [PyData.depth] at h2
  simp only [Tx.wt] at h3
  have := depth_mem hd
  have := wt_mem hd
  exact ⟨fineAll_iff.mp h1 d hd, by omega, by omega⟩
mutual
theorem depth_wt : ∀ d : PyData, Tx.fine d = true → d.depth ≤ Tx.wt d
  | .none, _ => by simp [PyData.depth]
  | .bool _, _ => by simp [PyData.depth]
  | .int _, _ => by simp [PyData.depth]
  | .str _, _ => by simp [PyData.depth]
  | .list xs, h => by
    simp only [Tx.fine] at h
    have := depthAll_wt xs h
    simp only [PyData.depth, Tx.wt]
    omega
  | .tuple xs, h => by
    simp only [Tx.fine] at h
    have := depthAll_wt xs h
    simp only [PyData.depth, Tx.wt]
    omega
  | .dict _, h => by simp [Tx.fine] at h
theorem depthAll_wt : ∀ xs : List PyData, fineAll xs = true → PyData.depthAll xs ≤ wtAll xs
  | [], _ => by simp [PyData.depthAll]
  | x :: xs, h => by
    simp only [fineAll, Bool.and_eq_true] at h
    have := depth_wt x h.1
    have := depthAll_wt xs h.2
    simp only [PyData.depthAll, wtAll]
    omega
end
theorem len_le_wtAll : ∀ xs : List PyData, 2 * xs.length ≤ wtAll xs
  | [] => by simp [wtAll]
  | x :: xs => by
    have := len_le_wtAll xs
    simp only [wtAll, List.length_cons]
    omega
theorem Thing.len {n m : Nat} {ds : List PyData} (h : Thing n m (.list ds)) : 2 * ds.length ≤ m := by
  have h3 := h.wt
  simp only [Tx.wt] at h3
  have := len_le_wtAll ds
  omega
end Tx

namespace Tx
open PySem PySem.Spec PyProof.Rows L2
/-! ## Rules of the kit with the written part named (within a comprehension it must be) -/
section
variable {X : Cx} {K : PySem.W.Frag}
theorem op_catTK (h : X.K = K) : OpR X (binaryOp .Add) (rCatT K) := h ▸ op_catT
theorem op_eqDK (h : X.K = K) (u : X.A.units + 64 < cLine) : OpR X (compareOp .Eq) (rEqD K) := h ▸ op_eqD u
theorem op_neDK (h : X.K = K) (u : X.A.units + 64 < cLine) : OpR X (compareOp .NotEq) (rNeD K) := h ▸ op_neD u
theorem ix_listK (h : X.K = K) : IxR X (rIxL K) := h ▸ ix_list
theorem ix_tupK (h : X.K = K) : IxR X (rIxT K) := h ▸ ix_tup
theorem sl_listK (h : X.K = K) : SlR X (rSlL K) := h ▸ sl_list
theorem sl_tupK (h : X.K = K) : SlR X (rSlT K) := h ▸ sl_tup
theorem call_len_seqK (h : X.K = K) : CallR X (.builtin "len") (fun xs H Q => ∃ p ys, xs = [.ref p] ∧ (SqL K H p ys ∨ SqT K H p ys) ∧ Q (.int ys.length) H) := h ▸ call_len_seq
theorem call_isDK {T : String} (h : X.K = K) : CallR X (.builtin "isinstance") (rIsD K T) := h ▸ call_isD
theorem call_reprK (h : X.K = K) (gd : X.A.guards = some []) (hu : X.A.units + 64 < cLine) : CallR X (.builtin "repr") (rRepr K) := h ▸ call_repr gd hu
theorem op_in_seqK (h : X.K = K) : OpR X (compareOp .In) (rIn K false) := h ▸ op_in_seq
end
/-! ## Data that stays while the things at F are changed -/
def hide (F : List Addr) (H : Hp) : Hp := fun a => if a ∈ F then none else H a
def Dq (K : PySem.W.Frag) (F : List Addr) (H : Hp) (v : V) (d : PyData) : Prop := Dp K (hide F H) v d
def DqAll (K : PySem.W.Frag) (F : List Addr) (H : Hp) (vs : List V) (ds : List PyData) : Prop := DpAll K (hide F H) vs ds
/-- the things at F are there -/
def There (F : List Addr) (H : Hp) : Prop := ∀ a ∈ F, H a ≠ none
section
variable {K : PySem.W.Frag} {F : List Addr} {H H' : Hp} {p : Addr} {o : HO} {v : V} {d : PyData} {vs : List V} {ds : List PyData}
theorem hide_in (h : p ∈ F) : hide F H p = none := if_pos h
theorem hide_out (h : p ∉ F) : hide F H p = H p := if_neg h
theorem hide_le : Same (hide F H) H := fun a o e => by
  unfold hide at e
  split at e
  · cases e
  · exact e
theorem hide_same (s : Same H H') : Same (hide F H) (hide F H') := fun a o e => by
  unfold hide at e ⊢
  split at e
  · cases e
  · rename_i h; rw [if_neg h]; exact s a o e
theorem hide_cons : Same (hide (p :: F) H) (hide F H) := fun a o e => by
  unfold hide at e ⊢
  split at e
  · cases e
  · rename_i h; rw [if_neg fun z => h (List.mem_cons_of_mem _ z)]; exact e
theorem hide_sub {F' : List Addr} (h : ∀ a ∈ F, a ∈ F') : Same (hide F' H) (hide F H) := fun a o e => by
  unfold hide at e ⊢
  split at e
  · cases e
  · rename_i z; rw [if_neg fun y => z (h a y)]; exact e
theorem There.fresh (t : There F H) (h : H p = none) : p ∉ F := fun z => t p z h
theorem There.same (t : There F H) (s : Same H H') : There F H' := fun a h => by
  cases q : H a with
  | none => exact absurd q (t a h)
  | some o => rw [s a o q]; simp
theorem There.upd (t : There F H) : There F (upd H p o) := fun a h => by
  by_cases z : a = p
  · rw [z, upd_same]; simp
  · rw [upd_ne z]; exact t a h
theorem There.cons (t : There F H) (h : H p = some o) : There (p :: F) H := fun a z => by
  cases z with
  | head => rw [h]; simp
  | tail _ z => exact t a z
theorem There.one (h : H p = some o) : There [p] H := fun a z => by rw [List.mem_singleton.mp z, h]; simp
theorem hide_upd (h : p ∉ F) : hide F (upd H p o) = upd (hide F H) p o := by
  funext a
  by_cases z : a = p
  · subst z; rw [hide_out h, upd_same, upd_same]
  · rw [upd_ne z]
    unfold hide
    rw [upd_ne z]
theorem hide_upd_in (h : p ∈ F) : hide F (upd H p o) = hide F H := by
  funext a
  unfold hide
  split
  · rfl
  · rename_i z; rw [upd_ne fun y => z (by rw [y]; exact h)]
theorem hide_mut (h : p ∈ F) : Same (hide F H) (hide F (upd H p o)) := by rw [hide_upd_in h]; exact Same.refl _
theorem Dq.dp (h : Dq K F H v d) : Dp K H v d := dp_mono hide_le d v h
theorem DqAll.dp (h : DqAll K F H vs ds) : DpAll K H vs ds := dpAll_mono hide_le ds vs h
theorem Dq.to (h : Dq K F H v d) (s : Same (hide F H) (hide F H')) : Dq K F H' v d := dp_mono s d v h
theorem DqAll.to (h : DqAll K F H vs ds) (s : Same (hide F H) (hide F H')) : DqAll K F H' vs ds := dpAll_mono s ds vs h
theorem Dq.same (h : Dq K F H v d) (s : Same H H') : Dq K F H' v d := h.to (hide_same s)
theorem DqAll.same (h : DqAll K F H vs ds) (s : Same H H') : DqAll K F H' vs ds := h.to (hide_same s)
theorem Dq.less (h : Dq K (p :: F) H v d) : Dq K F H v d := dp_mono hide_cons d v h
theorem DqAll.less (h : DqAll K (p :: F) H vs ds) : DqAll K F H vs ds := dpAll_mono hide_cons ds vs h
/-- a further thing is guarded that is new -/
theorem Dq.more (h : Dq K F H v d) (n : H p = none) : Dq K (p :: F) H v d := dp_mono (fun a o e => by
  have z : a ≠ p := fun z => by rw [z] at e; have := hide_le p o e; rw [n] at this; cases this
  unfold hide at e ⊢
  split at e
  · cases e
  · rename_i y; rw [if_neg fun q => by cases q with | head => exact z rfl | tail _ q => exact y q]; exact e) d v h
theorem DqAll.more (h : DqAll K F H vs ds) (n : H p = none) : DqAll K (p :: F) H vs ds := dpAll_mono (fun a o e => by
  have z : a ≠ p := fun z => by rw [z] at e; have := hide_le p o e; rw [n] at this; cases this
  unfold hide at e ⊢
  split at e
  · cases e
  · rename_i y; rw [if_neg fun q => by cases q with | head => exact z rfl | tail _ q => exact y q]; exact e) ds vs h
/-- a list (a tuple) of one's own -/
theorem Dq.lst (n : p ∉ F) (e : H p = some (.lst vs)) (h : DqAll K (p :: F) H vs ds) : Dq K F H (.ref p) (.list ds) := L2.Dp.lst (SqL.of (by rw [hide_out n]; exact e)) h.less
theorem Dq.tup (n : p ∉ F) (e : H p = some (.tup vs)) (h : DqAll K F H vs ds) : Dq K F H (.ref p) (.tuple ds) := L2.Dp.tup (SqT.of (by rw [hide_out n]; exact e)) h
theorem Dq.newL (n : H p = none) (t : There F H) (h : DqAll K F H vs ds) : Dq K F (upd H p (.lst vs)) (.ref p) (.list ds) :=
  L2.Dp.lst (SqL.of (by rw [hide_out (t.fresh n), upd_same])) (h.same (same_new n _))
theorem Dq.newT (n : H p = none) (t : There F H) (h : DqAll K F H vs ds) : Dq K F (upd H p (.tup vs)) (.ref p) (.tuple ds) :=
  L2.Dp.tup (SqT.of (by rw [hide_out (t.fresh n), upd_same])) (h.same (same_new n _))
/-- a place: numbers alone -/
theorem place_q {b : Addr} {q : List Nat} (hb : ∀ ys, H b ≠ some (.tup ys)) (hf : ∀ o ys, H b ≠ some (.frz o (.tup ys))) (h : Dp K H v (plD q)) : Dq K [b] H v (plD q) := by
  cases h with
  | @tup a xs _ hs ha =>
  have ha' : ∀ (q : List Nat) (xs : List V), DpAll K H xs (q.map fun (n : Nat) => PyData.int (n : Int)) → DpAll K (hide [b] H) xs (q.map fun (n : Nat) => PyData.int (n : Int)) := by
    intro q
    induction q with
    | nil => intro xs h; cases h; exact .nil
    | cons n q ih =>
      intro xs h
      cases h with
      | cons h1 h2 => cases h1; exact .cons (.int _) (ih _ h2)
  refine L2.Dp.tup ?_ (ha' q xs ha)
  rcases hs with (e | ⟨o, e⟩) | e
  · exact .inl (.inl (by rw [hide_out fun z => hb xs (by rw [← List.mem_singleton.mp z]; exact e)]; exact e))
  · exact .inl (.inr ⟨o, by rw [hide_out fun z => hf o xs (by rw [← List.mem_singleton.mp z]; exact e)]; exact e⟩)
  · exact .inr e
end
section
variable {K : PySem.W.Frag} {b : Addr} {F : List Addr} {H H' J' : Hp} {v : V} {d : PyData}
theorem Stp.hide (s : Stp b H H') (h : b ∈ F) : Same (hide F H) (hide F H') := fun a o e => by
  unfold Tx.hide at e ⊢
  split at e
  · cases e
  · rename_i z; rw [if_neg z]; exact s.keep a o (fun y => z (by rw [y]; exact h)) e
theorem Stp.thereF (s : Stp b H H') (hB : Bag H b) (t : There F H) : There F H' := fun a h => s.there hB (t a h)
theorem Gro.hide (g : Gro b (hide F H) H J' H') (t : There F H) : Same J' (Tx.hide F H') := fun a o e => by
  have n : a ∉ F := fun z => by rw [g.fr a (t a z) (hide_in z)] at e; cases e
  rw [hide_out n]
  exact g.jh a o e
theorem Gro.dq (g : Gro b (Tx.hide F H) H J' H') (t : There F H) (h : Dp K J' v d) : Dq K F H' v d := dp_mono (g.hide t) d v h
theorem Bag.there (h : Bag H b) : There [b] H := by
  obtain ⟨c, m, e⟩ := h
  exact There.one e
theorem Bag.same (h : Bag H b) (s : Same H H') : Bag H' b := by
  obtain ⟨c, m, e⟩ := h
  exact ⟨c, m, s _ _ e⟩
theorem Stp.ofSame (h : Bag H b) (s : Same H H') : Stp b H H' := ⟨h.same s, SameBut.of s⟩
end
end Tx

namespace Tx
open PySem PySem.Spec PyProof.Rows L2
/-! ## More rules: max with a default; a def that cannot raise here -/
/-- the greatest, or z -/
def maxOr (z : Int) : List Int → Int
  | [] => z
  | n :: r => r.foldl max n
def rMaxDf (K : PySem.W.Frag) : List V → List V → Hp → VK → Prop := fun vs zs H Q => ∃ (a : Addr) (ns : List Int) (z : Int), vs = [.ref a] ∧ zs = [.int z] ∧ SqL K H a (ns.map V.int) ∧ Q (.int (maxOr z ns)) H
theorem dp_ints {K : PySem.W.Frag} {H : Hp} : ∀ ns : List Int, DpAll K H (ns.map V.int) (ns.map PyData.int)
  | [] => .nil
  | n :: ns => .cons (.int n) (dp_ints ns)
theorem depth_ints : ∀ ns : List Int, PyData.depthAll (ns.map PyData.int) = 0
  | [] => rfl
  | n :: ns => by simp [PyData.depthAll, PyData.depth, depth_ints ns]
theorem cr_maxDf {X : Cx} (hc : X.calm = true) (hu : X.A.units + 64 < cLine) : CallRK X (.builtin "max") [Str.ofString "default"] (rMaxDf X.K) := by
  intro pins s σ H vs zs us ws Q I r rz h
  obtain ⟨a, ns, z, rfl, rfl, hs, q⟩ := h
  obtain ⟨its, rv, hl, _⟩ := I.list hs
  rw [Vals.ref1 r]
  obtain ⟨w1, rfl, t, rfl⟩ := vals1 rz
  obtain ⟨as, rd⟩ := Dp.readsAll I _ _ _ (dp_ints ns) rv
  have al : PySem.W.AlikeAll (ns.map PyData.int) := by
    refine ⟨fun x hx y hy => ?_, fun x hx => ?_⟩
    · obtain ⟨i, _, rfl⟩ := List.mem_map.mp hx
      obtain ⟨j, _, rfl⟩ := List.mem_map.mp hy
      rfl
    · obtain ⟨i, _, rfl⟩ := List.mem_map.mp hx
      exact fun z => nomatch z
  refine PySem.W.max_list_default (d := .int z t) (I.ok.hd hc) hl.isList (by simpa using rd) al (by rw [depth_ints]; omega) (fun e h' tk hk => ?_) (fun y ys i v h' tk bs e hv rd' hk => ?_)
  · obtain rfl : ns = [] := by cases ns with | nil => rfl | cons n r => cases e
    exact ⟨.int z, H, I.kept hk, ⟨t, rfl⟩, q⟩
  · cases ns with
    | nil => cases e
    | cons n r =>
      rw [List.map_cons] at e
      injection e with e1 e2
      subst e1 e2
      rw [PySem.W.maxD_ints] at rd'
      cases rd'
      exact ⟨.int _, H, I.kept hk, ⟨_, rfl⟩, q⟩
theorem foldl_max (ds : List PyData) : ∀ n : Nat, (ds.map fun d => (d.depth : Int)).foldl max (n : Int) = ((max n (PyData.depthAll ds) : Nat) : Int) := by
  induction ds with
  | nil => intro n; simp [PyData.depthAll]
  | cons d ds ih =>
    intro n
    rw [List.map_cons, List.foldl_cons]
    have : max (n : Int) (d.depth : Int) = ((max n d.depth : Nat) : Int) := by omega
    rw [this, ih]
    simp only [PyData.depthAll]
    omega
theorem maxOr_depth (ds : List PyData) : maxOr 0 (ds.map fun d => (d.depth : Int)) = (PyData.depthAll ds : Int) := by
  cases ds with
  | nil => rfl
  | cons d ds =>
    show (ds.map fun d => (d.depth : Int)).foldl max (d.depth : Int) = _
    rw [foldl_max]
    rfl
theorem Dfn.calm {P : Program} {w : World} {K : PySem.W.Frag} {mg : Str → Option Value} {base : Heap} {k : Nat} {x : Str} {ps : List Str} {sp sp' : Sp} (D : Dfn P w K mg base (L2.CX P w) k x ps sp) (h : ∀ vs H Q E, sp' vs H Q E → sp vs H Q fun _ _ _ => False) : Dfn P w K mg base CX0 k x ps sp' := by
  obtain ⟨f, fd, F, m, kp, bd⟩ := D
  refine ⟨f, fd, ⟨fun vs H Q E z => F.len _ _ _ _ (h _ _ _ _ z), fun A out s H ar us vs Q E r g e b v z => ?_⟩, m, kp, bd⟩
  refine codeAny_mono (F.run A out s H ar us vs Q _ r g e b v (h _ _ _ _ z)) fun r s' got => ?_
  match r, got with
  | .ok (.ret u), got => exact got
  | .ok .next, got => exact False.elim got
  | .ok .brk, got => exact False.elim got
  | .ok .cont, got => exact False.elim got
  | .error er, ⟨_, _, _, _, _, _, _, _, _, _, _, _, no⟩ => exact False.elim no
/-! ## New things made of new things; what may be done to them -/
mutual
/-- v stands for d, all its lists are outside B, each below another, and have at most M 'x' behind -/
def Nw (M : Nat) (H : Hp) : PyData → (Addr → Prop) → V → Prop
  | .none, _, v => v = .non
  | .str x, _, v => v = .str x
  | .list ds, B, v => ∃ (a : Addr) (vs : List V) (k : Nat), v = .ref a ∧ ¬ B a ∧ H a = some (.lst (vs ++ List.replicate k (.str "x"))) ∧ k ≤ M ∧ NwAll M H ds (fun x => B x ∨ x = a) vs
  | .bool _, _, _ => False
  | .int _, _, _ => False
  | .tuple _, _, _ => False
  | .dict _, _, _ => False
def NwAll (M : Nat) (H : Hp) : List PyData → (Addr → Prop) → List V → Prop
  | [], _, vs => vs = []
  | d :: ds, B, vs => ∃ (v : V) (ws : List V), vs = v :: ws ∧ Nw M H d B v ∧ NwAll M H ds B ws
end
mutual
theorem Nw.to {M M' : Nat} {H H' : Hp} (hM : M ≤ M') : ∀ (d : PyData) (B B' : Addr → Prop) (v : V), (∀ a, B' a → B a) → (∀ a o, ¬ B a → H a = some o → H' a = some o) → Nw M H d B v → Nw M' H' d B' v
  | .none, _, _, _, _, _, h => by simpa only [Nw] using h
  | .str _, _, _, _, _, _, h => by simpa only [Nw] using h
  | .list ds, B, B', v, hB, hH, h => by
    simp only [Nw] at h ⊢
    obtain ⟨a, vs, k, e, n, ha, hk, hA⟩ := h
    exact ⟨a, vs, k, e, fun z => n (hB a z), hH a _ n ha, by omega, NwAll.to hM ds _ _ vs (fun x hx => hx.imp (hB x) id) (fun x o nx hx => hH x o (fun z => nx (.inl z)) hx) hA⟩
  | .bool _, _, _, _, _, _, h => by simp only [Nw] at h
  | .int _, _, _, _, _, _, h => by simp only [Nw] at h
  | .tuple _, _, _, _, _, _, h => by simp only [Nw] at h
  | .dict _, _, _, _, _, _, h => by simp only [Nw] at h
theorem NwAll.to {M M' : Nat} {H H' : Hp} (hM : M ≤ M') : ∀ (ds : List PyData) (B B' : Addr → Prop) (vs : List V), (∀ a, B' a → B a) → (∀ a o, ¬ B a → H a = some o → H' a = some o) → NwAll M H ds B vs → NwAll M' H' ds B' vs
  | [], _, _, _, _, _, h => by simpa only [NwAll] using h
  | d :: ds, B, B', vs, hB, hH, h => by
    simp only [NwAll] at h ⊢
    obtain ⟨v, ws, e, h1, h2⟩ := h
    exact ⟨v, ws, e, Nw.to hM d B B' v hB hH h1, NwAll.to hM ds B B' ws hB hH h2⟩
end
theorem dp_xs {K : PySem.W.Frag} {H : Hp} : ∀ k : Nat, DpAll K H (List.replicate k (.str "x")) (List.replicate k (.str "x"))
  | 0 => .nil
  | k + 1 => .cons (.str _) (dp_xs k)
mutual
theorem Nw.some {K : PySem.W.Frag} {M : Nat} {H : Hp} : ∀ (d : PyData) (B : Addr → Prop) (v : V), Nw M H d B v → ∃ e, Dp K H v e ∧ isL e = isL d
  | .none, _, v, h => by simp only [Nw] at h; subst h; exact ⟨.none, .non, rfl⟩
  | .str x, _, v, h => by simp only [Nw] at h; subst h; exact ⟨.str x, .str x, rfl⟩
  | .list ds, B, v, h => by
    simp only [Nw] at h
    obtain ⟨a, vs, k, rfl, n, ha, hk, hA⟩ := h
    obtain ⟨es, he⟩ := NwAll.some ds _ vs hA
    exact ⟨.list (es ++ List.replicate k (.str "x")), .lst (SqL.of ha) (DpAll.append he (dp_xs k)), rfl⟩
  | .bool _, _, _, h => by simp only [Nw] at h
  | .int _, _, _, h => by simp only [Nw] at h
  | .tuple _, _, _, h => by simp only [Nw] at h
  | .dict _, _, _, h => by simp only [Nw] at h
theorem NwAll.some {K : PySem.W.Frag} {M : Nat} {H : Hp} : ∀ (ds : List PyData) (B : Addr → Prop) (vs : List V), NwAll M H ds B vs → ∃ es, DpAll K H vs es
  | [], _, vs, h => by simp only [NwAll] at h; subst h; exact ⟨[], .nil⟩
  | d :: ds, B, vs, h => by
    simp only [NwAll] at h
    obtain ⟨v, ws, rfl, h1, h2⟩ := h
    obtain ⟨e, he, _⟩ := Nw.some (K := K) d B v h1
    obtain ⟨es, hes⟩ := NwAll.some (K := K) ds B ws h2
    exact ⟨e :: es, .cons he hes⟩
end
mutual
theorem Nw.dp {K : PySem.W.Frag} {H : Hp} : ∀ (d : PyData) (B : Addr → Prop) (v : V), Nw 0 H d B v → Dp K H v d
  | .none, _, v, h => by simp only [Nw] at h; subst h; exact .non
  | .str x, _, v, h => by simp only [Nw] at h; subst h; exact .str x
  | .list ds, B, v, h => by
    simp only [Nw] at h
    obtain ⟨a, vs, k, rfl, n, ha, hk, hA⟩ := h
    obtain rfl : k = 0 := by omega
    rw [List.replicate_zero, List.append_nil] at ha
    exact .lst (SqL.of ha) (NwAll.dp ds _ vs hA)
  | .bool _, _, _, h => by simp only [Nw] at h
  | .int _, _, _, h => by simp only [Nw] at h
  | .tuple _, _, _, h => by simp only [Nw] at h
  | .dict _, _, _, h => by simp only [Nw] at h
theorem NwAll.dp {K : PySem.W.Frag} {H : Hp} : ∀ (ds : List PyData) (B : Addr → Prop) (vs : List V), NwAll 0 H ds B vs → DpAll K H vs ds
  | [], _, vs, h => by simp only [NwAll] at h; subst h; exact .nil
  | d :: ds, B, vs, h => by
    simp only [NwAll] at h
    obtain ⟨v, ws, rfl, h1, h2⟩ := h
    exact .cons (Nw.dp d B v h1) (NwAll.dp ds B ws h2)
end
section
variable {M : Nat} {H H' : Hp} {B : Addr → Prop}
theorem NwAll.len : ∀ {ds : List PyData} {vs : List V}, NwAll M H ds B vs → vs.length = ds.length
  | [], vs, h => by simp only [NwAll] at h; rw [h]; rfl
  | d :: ds, vs, h => by
    simp only [NwAll] at h
    obtain ⟨v, ws, rfl, h1, h2⟩ := h
    simp only [List.length_cons, NwAll.len h2]
theorem NwAll.get : ∀ {ds : List PyData} {vs : List V} {i : Nat} {v : V}, NwAll M H ds B vs → vs[i]? = Option.some v → ∃ d, ds[i]? = Option.some d ∧ Nw M H d B v
  | [], vs, i, v, h, e => by simp only [NwAll] at h; rw [h] at e; simp at e
  | d :: ds, vs, 0, v, h, e => by
    simp only [NwAll] at h
    obtain ⟨u, ws, rfl, h1, h2⟩ := h
    simp at e
    subst e
    exact ⟨d, rfl, h1⟩
  | d :: ds, vs, i + 1, v, h, e => by
    simp only [NwAll] at h
    obtain ⟨u, ws, rfl, h1, h2⟩ := h
    obtain ⟨c, e1, e2⟩ := NwAll.get (i := i) (v := v) h2 (by simpa using e)
    exact ⟨c, by simpa using e1, e2⟩
theorem NwAll.append : ∀ {ds es : List PyData} {vs ws : List V}, NwAll M H ds B vs → NwAll M H es B ws → NwAll M H (ds ++ es) B (vs ++ ws)
  | [], es, vs, ws, h, g => by simp only [NwAll] at h; rw [h]; exact g
  | d :: ds, es, vs, ws, h, g => by
    simp only [NwAll] at h
    obtain ⟨v, us, rfl, h1, h2⟩ := h
    show NwAll M H (d :: (ds ++ es)) B (v :: (us ++ ws))
    simp only [NwAll]
    exact ⟨v, us ++ ws, rfl, h1, NwAll.append h2 g⟩
theorem NwAll.one {d : PyData} {v : V} (h : Nw M H d B v) : NwAll M H [d] B [v] := by
  simp only [NwAll]
  exact ⟨v, [], rfl, h, rfl⟩
theorem NwAll.xs : ∀ k : Nat, NwAll M H (List.replicate k (.str "x")) B (List.replicate k (.str "x"))
  | 0 => by rw [List.replicate_zero, List.replicate_zero]; simp only [NwAll]
  | k + 1 => by
    rw [List.replicate_succ, List.replicate_succ]
    simp only [NwAll]
    exact ⟨_, _, rfl, by simp only [Nw], NwAll.xs k⟩
end
/-- from H to H' some lists outside C have got up to k 'x' more -/
def Evo (C : Addr → Prop) (k : Nat) (H H' : Hp) : Prop := ∀ a o, H a = Option.some o → H' a = Option.some o ∨ (¬ C a ∧ ∃ vs j, o = .lst vs ∧ j ≤ k ∧ H' a = Option.some (.lst (vs ++ List.replicate j (.str "x"))))
section
variable {C C' : Addr → Prop} {k j : Nat} {H H1 H2 : Hp}
theorem Evo.same (s : Same H H1) : Evo C k H H1 := fun a o e => .inl (s a o e)
theorem Evo.trans (x : Evo C k H H1) (y : Evo C j H1 H2) : Evo C (k + j) H H2 := by
  intro a o e
  rcases x a o e with e1 | ⟨n, vs, i, rfl, hi, e1⟩
  · rcases y a o e1 with e2 | ⟨n, vs, i, rfl, hi, e2⟩
    · exact .inl e2
    · exact .inr ⟨n, vs, i, rfl, by omega, e2⟩
  · rcases y a _ e1 with e2 | ⟨_, vs2, i2, e0, hi2, e2⟩
    · exact .inr ⟨n, vs, i, rfl, by omega, e2⟩
    · injection e0 with e0
      subst e0
      refine .inr ⟨n, vs, i + i2, rfl, by omega, ?_⟩
      rw [e2, List.append_assoc, List.replicate_append_replicate]
theorem Evo.weak (x : Evo C k H H1) (hC : ∀ a, C' a → C a) (hk : k ≤ j) : Evo C' j H H1 := fun a o e =>
  (x a o e).imp id fun ⟨n, vs, i, e1, hi, e2⟩ => ⟨fun z => n (hC a z), vs, i, e1, by omega, e2⟩
theorem Evo.keep (x : Evo C k H H1) {a : Addr} {o : HO} (hC : C a) (e : H a = Option.some o) : H1 a = Option.some o := (x a o e).elim id fun z => absurd hC z.1
theorem Evo.old {H0 : Hp} (x : Evo (fun a => H0 a ≠ none) k H H1) (s : Same H0 H) : Same H0 H1 := fun a o e => x.keep (by rw [e]; simp) (s a o e)
end
mutual
theorem Nw.evo {M k : Nat} {C : Addr → Prop} {H H' : Hp} (x : Evo C k H H') : ∀ (d : PyData) (B : Addr → Prop) (v : V), Nw M H d B v → Nw (M + k) H' d B v
  | .none, _, _, h => by simpa only [Nw] using h
  | .str _, _, _, h => by simpa only [Nw] using h
  | .list ds, B, v, h => by
    simp only [Nw] at h ⊢
    obtain ⟨a, vs, i, e, n, ha, hk, hA⟩ := h
    have hA' := NwAll.evo x ds _ vs hA
    rcases x a _ ha with e1 | ⟨_, ws, j, e0, hj, e1⟩
    · exact ⟨a, vs, i, e, n, e1, by omega, hA'⟩
    · injection e0 with e0
      subst e0
      refine ⟨a, vs, i + j, e, n, ?_, by omega, hA'⟩
      rw [e1, List.append_assoc, List.replicate_append_replicate]
  | .bool _, _, _, h => by simp only [Nw] at h
  | .int _, _, _, h => by simp only [Nw] at h
  | .tuple _, _, _, h => by simp only [Nw] at h
  | .dict _, _, _, h => by simp only [Nw] at h
theorem NwAll.evo {M k : Nat} {C : Addr → Prop} {H H' : Hp} (x : Evo C k H H') : ∀ (ds : List PyData) (B : Addr → Prop) (vs : List V), NwAll M H ds B vs → NwAll (M + k) H' ds B vs
  | [], _, _, h => by simpa only [NwAll] using h
  | d :: ds, B, vs, h => by
    simp only [NwAll] at h ⊢
    obtain ⟨v, ws, e, h1, h2⟩ := h
    exact ⟨v, ws, e, Nw.evo x d B v h1, NwAll.evo x ds B ws h2⟩
end
mutual
/-- how many lists -/
def nl : PyData → Nat
  | .list ds => 1 + nlAll ds
  | _ => 0
def nlAll : List PyData → Nat
  | [] => 0
  | d :: ds => nl d + nlAll ds
end
theorem nlAll_append : ∀ (xs ys : List PyData), nlAll (xs ++ ys) = nlAll xs + nlAll ys
  | [], ys => by simp [nlAll]
  | x :: xs, ys => by simp only [List.cons_append, nlAll, nlAll_append xs ys]; omega
theorem nlAll_xs : ∀ k : Nat, nlAll (List.replicate k (.str "x")) = 0
  | 0 => rfl
  | k + 1 => by rw [List.replicate_succ]; simp [nlAll, nl, nlAll_xs k]
theorem nl_take {xs : List PyData} {i : Nat} {d : PyData} (h : xs[i]? = Option.some d) : nlAll (xs.take (i + 1)) = nlAll (xs.take i) + nl d := by
  rw [List.take_add_one, h, nlAll_append]
  simp [nlAll]
theorem nl_take_le (xs : List PyData) (i : Nat) : nlAll (xs.take i) ≤ nlAll xs := by
  have h := nlAll_append (xs.take i) (xs.drop i)
  rw [List.take_append_drop] at h
  omega
mutual
theorem nl_le : ∀ d : PyData, nl d ≤ szD d
  | .list ds => by have := nlAll_le ds; simp only [nl, szD]; omega
  | .none => by simp [nl]
  | .str _ => by simp [nl]
  | .bool _ => by simp [nl]
  | .int _ => by simp [nl]
  | .tuple _ => by simp [nl]
  | .dict _ => by simp [nl]
theorem nlAll_le : ∀ ds : List PyData, nlAll ds ≤ szAll ds
  | [] => by simp [nlAll]
  | d :: ds => by have := nl_le d; have := nlAll_le ds; simp only [nlAll, szAll]; omega
end
end Tx

namespace Tx
open PySem PySem.Spec PyProof.Rows L2
abbrev sIsText : Stmt := top 2
theorem scIsText : FnScope ["thing", "sign"] ["thing"] (defScope sIsText) := ⟨rfl, rfl, rfl, by decide +kernel, rfl, by decide +kernel, by decide +kernel⟩
abbrev sWrongPlace : Stmt := top 3
theorem scWrongPlace : FnScope ["thing", "at", "one", "found"] ["thing"] (defScope sWrongPlace) := ⟨rfl, rfl, rfl, by decide +kernel, rfl, by decide +kernel, by decide +kernel⟩
def spIsText (K : PySem.W.Frag) : Sp := fun vs H Q _ => ∃ (v : V) (d : PyData), vs = [v] ∧ Dp K H v d ∧ wt d ≤ 16000000 ∧ ∀ H', Same H H' → Q (.bl (isTxt d)) H'
/-- wrong_place, program's or law's: nothing, or the place -/
def spWrongPlace (K : PySem.W.Frag) (n : Nat) : Sp := fun vs H Q _ => ∃ (v : V) (d : PyData), vs = [v] ∧ Dp K H v d ∧ Thing (n - 1) 16000000 d ∧ 1 ≤ n ∧
  ∀ (u : V) (H' : Hp), Same H H' → (wrongP d = none → u = .non) → (∀ p, wrongP d = some p → Dp K H' u (plD p)) → Q u H'
section
variable {P : Program} {w : World} {K : PySem.W.Frag} {mg : Str → Option Value} {base : Heap}
theorem d_is_text (h : Has K mg "is_text" sIsText) (B : Bi mg) (g_LETTERS : ∃ t, mg "LETTERS" = some (.str "abcdefghijklmnopqrstuvwxyz" t)) : Dfn P w K mg base CX0 1 "is_text" ["thing"] (spIsText K) := by
  refine dfn0 h B scIsText (fun _ _ _ _ _ _ us hl => match us, hl with | [_], _ => rfl) (fun vs H Q E h => ?_) (fun f cv A out s H vs Q E c h => ?_)
  · obtain ⟨v, d, rfl, _⟩ := h
    rfl
  obtain ⟨v, d, rfl, hd, hw, q⟩ := h
  refine ⟨_, (pss_one (ps_ret (pe_and (pe_callB (call_isD (T := "str")) (by rfl) c.b.isinstance (by decide +kernel) (pa_cons (pv 0) (pa_cons (pe_bltn (v := .ty "str") (by rfl) c.b.str (by decide +kernel) rfl) pa_nil))) (pe_one (pe_callB (cr_all rfl) (by rfl) c.b.all (by decide +kernel) (pa_cons (pe_lc (own := [("sign", 1)]) (g := (gName 1)) (tt := tYes) rfl scIsText.nd (pi_str (pv 0)) (blkOk_by (own := [("sign", 1)]) (N := ["thing", "sign"]) (sc := defScope sIsText) (by decide +kernel)) (fun _ _ _ _ _ => (pg_name (i := 1) scIsText.nd rfl (Or.inl rfl))) (fun _ _ _ _ _ => pts_nil) (fun _ _ _ _ _ => (pe_cmpR op_in_sign (pv 1) (pe_gs g_LETTERS (by rfl)) (by rfl)))) pa_nil)))))), ?_⟩
  refine ⟨_, rfl, v, d, _, rfl, hd, kit_str _, _, rfl, ?_⟩
  cases d with
  | str x =>
    cases hd
    refine iteT ⟨_, rfl, x, rfl, fun L hL => ?_⟩
    simp only [Tx.wt] at hw
    refine lc_it (walk_str (z := x)) (fun i H' => Same H H' ∧ H' L = some (.lst ((x.cps.toList.take i).map fun c => V.bl (decide (97 ≤ c ∧ c ≤ 122)))))
      ⟨same_new hL _, upd_same⟩ (fun _ _ _ _ => trivial) ?_ ?_
    · rintro i y H1 H2 hi ⟨sm, hL1⟩ ⟨rfl, ch, hc, rfl⟩
      refine ⟨rfl, _, rfl, ch, _, rfl, rfl, _, hL1, ?_, (fun b o e => ?_), ?_⟩
      · rw [List.length_map, List.length_take, Array.length_toList, sizeLine_eq]
        have : x.cps.size ≤ 1600000 := by
          have : x.length = x.cps.size := rfl
          omega
        omega
      · rw [upd_ne (ne_of_none e hL)]
        exact sm _ _ e
      · rw [upd_same, List.take_add_one, Array.getElem?_toList, hc, List.map_append, abc_mem]
        rfl
    · rintro H1 ⟨sm, hL1⟩
      rw [← Array.length_toList, List.take_length] at hL1
      refine ⟨L, x.cps.toList.map fun c => decide (97 ≤ c ∧ c ≤ 122), rfl, SqL.of (by rw [hL1, List.map_map]; rfl), ?_⟩
      have := q _ sm
      simp only [isTxt, ltr] at this
      rw [List.all_map]
      exact this
  | none => exact iteF (q H (Same.refl _))
  | bool _ => exact iteF (q H (Same.refl _))
  | int _ => exact iteF (q H (Same.refl _))
  | list _ => exact iteF (q H (Same.refl _))
  | tuple _ => exact iteF (q H (Same.refl _))
  | dict _ => exact iteF (q H (Same.refl _))
theorem d_wrong_place (h : Has K mg "wrong_place" sWrongPlace) (B : Bi mg) (D_is_text : Dfn P w K mg base CX0 1 "is_text" ["thing"] (spIsText K)) :
    ∀ n, Dfn P w K mg base CX0 (n + 1) "wrong_place" ["thing"] (spWrongPlace K n)
  | 0 => (dfn_none h (fun _ _ _ _ _ _ us hl => match us, hl with | [_], _ => rfl) fun vs H Q E z => by
    obtain ⟨_, _, _, _, _, z, _⟩ := z
    omega).mono (by omega)
  | n + 1 => by
    have D_wrong_place := d_wrong_place h B D_is_text n
    refine dfn0 (k := n + 1) h B scWrongPlace (fun _ _ _ _ _ _ us hl => match us, hl with | [_], _ => rfl) (fun vs H Q E h => ?_) (fun f cv A out s H vs Q E c h => ?_)
    · obtain ⟨v, d, rfl, _⟩ := h
      rfl
    obtain ⟨v, d, rfl, hd, th, _, q⟩ := h
    refine ⟨_, (pss_cons (ps_if (pt_val (pe_callB (call_isD (T := "list")) (by rfl) c.b.isinstance (by decide +kernel) (pa_cons (pv 0) (pa_cons (pe_bltn (v := .ty "list") (by rfl) c.b.list (by decide +kernel) rfl) pa_nil)))) (pss_cons (ps_for PassesOwn.never rfl (pi_enum (by rfl) c.b.enumerate (pa_cons (pv 0) pa_nil)) (pg_tup rfl (pgs_cons (pg_name (i := 1) scWrongPlace.nd rfl (Or.inl rfl)) (pgs_cons (pg_name (i := 2) scWrongPlace.nd rfl (Or.inl rfl)) pgs_nil)))
    (pss_cons (ps_set (i := 3) scWrongPlace.nd rfl (Or.inl rfl) (pe_d D_wrong_place c (by omega) (by rfl) (pa_cons (pv 2) pa_nil)))
    (pss_one (ps_if (pt_cmpR op_notN (pv 3) pe_non (nomark _)) (pss_one (ps_ret (pe_op op_catT (pe_tup (pa_cons (pv 1) pa_nil)) (pv 3)))) pss_nil))))
    (pss_one (ps_ret pe_non))) pss_nil)
    (pss_one (ps_ret (pe_ifExp (PW.pt (pw_or (pt_cmpR op_isN (pv 0) pe_non (nomark _)) (pw_or1 (pt_val (pe_d D_is_text c (by omega) (by rfl) (pa_cons (pv 0) pa_nil)))))) pe_non (pe_tup pa_nil))))), ?_⟩
    refine ⟨_, rfl, v, d, _, rfl, hd, kit_list _, _, rfl, ?_⟩
    cases d with
    | list ds =>
      cases hd with
      | @lst a xs _ hs ha =>
      refine iteT ⟨_, rfl, a, xs, rfl, hs, ?_⟩
      have hlen := DpAll.length ha
      refine for_it (walk_enum (K := K) (a := a) (xs := xs)) (fun i σ H' => ∃ (u1 u2 u3 : Option V), σ = [some (.ref a), u1, u2, u3] ∧ Same H H' ∧ wrongAll 0 ds = wrongAll i (ds.drop i))
        ⟨none, none, none, rfl, Same.refl _, rfl⟩ (fun _ _ _ _ z => by obtain ⟨_, _, _, _, sm, _⟩ := z; exact sm.seq hs) ?_ ?_
      · rintro i y σ H1 H2 hi ⟨u1, u2, u3, rfl, sm, ew⟩ ⟨T, y1, y2, rfl, hT, rfl, e1, e2⟩
        cases e1
        obtain ⟨d, f1, f2⟩ := DpAll.get ha e2
        have hm := List.mem_of_getElem? f1
        have sm2 := sm.trans (same_new hT (.tup [.int ((i : Nat) : Int), y2]))
        refine ⟨T, _, rfl, SqT.of upd_same, rfl, _, _, rfl, _, _, rfl, rfl, ?_⟩
        have thd : Thing (n - 1) 16000000 d := (th.item hm)
        have n1 : 1 ≤ n := by
          have := th.deep
          simp only [PyData.depth] at this
          omega
        refine ⟨_, rfl, y2, d, rfl, dp_mono sm2 d y2 f2, thd, n1, fun u H3 sm3 h0 h1 => ?_⟩
        refine ⟨_, rfl, rfl, _, rfl, ?_⟩
        cases ep : wrongP d with
        | none =>
          have eu := h0 ep
          subst eu
          exact iteF ⟨_, _, _, rfl, sm2.trans sm3, wrongAll_drop f1 ep ew⟩
        | some p =>
          have hp := h1 p ep
          have wr : wrongP (.list ds) = some (i :: p) := by rw [wrongP]; exact wrongAll_at f1 ep ew
          cases hp with
          | @tup ta txs _ hts hta =>
          refine iteT ⟨_, rfl, (by show 1 ≤ sizeLine; decide), fun q1 hq1 => ⟨_, rfl, q1, ta, _, txs, rfl, rfl, SqT.of upd_same, Same.sqT (same_new hq1 _) hts, (by intro z; cases z), ?_, fun z => ?_, fun z q2 hq2 => ?_⟩⟩
          · have l1 := DpAll.length hta
            rw [List.length_map] at l1
            have l2 := wrong_len d p ep
            have l3 := depth_wt d thd.fine
            have l4 := thd.wt
            show 1 + txs.length ≤ sizeLine
            rw [sizeLine_eq]
            omega
          · have lp : p = [] := by
              have l1 := DpAll.length hta
              rw [z, List.length_map] at l1
              exact List.eq_nil_of_length_eq_zero l1.symm
            refine q (.ref q1) _ ((sm2.trans sm3).trans (same_new hq1 _)) (fun e => by rw [wr] at e; cases e) fun p' e => ?_
            rw [wr] at e
            cases e
            rw [lp]
            exact .tup (SqT.of upd_same) (.cons (.int _) .nil)
          · refine q (.ref q2) _ (((sm2.trans sm3).trans (same_new hq1 _)).trans (same_new hq2 _)) (fun e => by rw [wr] at e; cases e) fun p' e => ?_
            rw [wr] at e
            cases e
            exact .tup (SqT.of upd_same) (.cons (.int _) (dpAll_mono ((same_new hq1 _).trans (same_new hq2 _)) _ _ hta))
      · rintro σ H1 ⟨u1, u2, u3, rfl, sm, ew⟩
        have wr : wrongP (.list ds) = none := by rw [wrongP, ew, hlen, List.drop_length]; rfl
        exact q .non H1 sm (fun _ => rfl) fun p e => by rw [wr] at e; cases e
    | none =>
      cases hd
      exact iteF ⟨_, rfl, rfl, _, rfl, iteT (iteT (q .non H (Same.refl _) (fun _ => rfl) fun p e => by simp [wrongP] at e))⟩
    | dict _ => cases hd
    | str x =>
      cases hd
      refine iteF ⟨_, rfl, rfl, _, rfl, iteF ⟨_, rfl, _, .str x, rfl, .str x, th.wt, fun H1 sm => ⟨_, rfl, ?_⟩⟩⟩
      by_cases hx : ltr x = true
      · have e1 : isTxt (.str x) = true := hx
        have e2 : wrongP (.str x) = none := by rw [wrongP, if_pos hx]
        rw [e1]
        exact iteT (q .non H1 sm (fun _ => rfl) fun p e => by rw [e2] at e; cases e)
      · have e1 : isTxt (.str x) = false := by simpa [isTxt] using hx
        have e2 : wrongP (.str x) = some [] := by rw [wrongP, if_neg hx]
        rw [e1]
        refine iteF ⟨(by show 0 ≤ sizeLine; decide), fun r hr => q (.ref r) _ (sm.trans (same_new hr _)) (fun e => by rw [e2] at e; cases e) fun p e => ?_⟩
        rw [e2] at e
        cases e
        exact .tup (SqT.of upd_same) .nil
    | bool y =>
      cases hd
      refine iteF ⟨_, rfl, rfl, _, rfl, iteF ⟨_, rfl, _, .bool y, rfl, .bl y, th.wt, fun H1 sm => ⟨_, rfl, iteF ⟨(by show 0 ≤ sizeLine; decide), fun r hr => q (.ref r) _ (sm.trans (same_new hr _)) (fun e => by simp [wrongP] at e) fun p e => ?_⟩⟩⟩⟩
      simp only [wrongP] at e
      cases e
      exact .tup (SqT.of upd_same) .nil
    | int y =>
      cases hd
      refine iteF ⟨_, rfl, rfl, _, rfl, iteF ⟨_, rfl, _, .int y, rfl, .int y, th.wt, fun H1 sm => ⟨_, rfl, iteF ⟨(by show 0 ≤ sizeLine; decide), fun r hr => q (.ref r) _ (sm.trans (same_new hr _)) (fun e => by simp [wrongP] at e) fun p e => ?_⟩⟩⟩⟩
      simp only [wrongP] at e
      cases e
      exact .tup (SqT.of upd_same) .nil
    | tuple ds =>
      cases hd with
      | tup hs ha =>
      refine iteF ⟨_, rfl, rfl, _, rfl, iteF ⟨_, rfl, _, .tuple ds, rfl, .tup hs ha, th.wt, fun H1 sm => ⟨_, rfl, iteF ⟨(by show 0 ≤ sizeLine; decide), fun r hr => q (.ref r) _ (sm.trans (same_new hr _)) (fun e => by simp [wrongP] at e) fun p e => ?_⟩⟩⟩⟩
      simp only [wrongP] at e
      cases e
      exact .tup (SqT.of upd_same) .nil
end
end Tx

namespace Tx
open PySem PySem.Spec PyProof.Rows L2
/-! ## Places as data -/
/-- (i,) + place -/
theorem dp_cons {K : PySem.W.Frag} {H : Hp} {i : Nat} {p : List Nat} {xs : List V} (h : DpAll K H xs (p.map fun (n : Nat) => PyData.int (n : Int))) : DpAll K H (.int (i : Int) :: xs) ((i :: p).map fun (n : Nat) => PyData.int (n : Int)) := .cons (.int _) h
theorem plD_shaped (p : List Nat) : SeqAt.shaped (plD p) = true := by
  have h1 : ∀ p : List Nat, PyData.canLayAll0 (p.map fun (n : Nat) => PyData.int (n : Int)) = true := fun p => by
    induction p with
    | nil => rfl
    | cons n p ih => simp only [List.map_cons, PyData.canLayAll0, PyData.canLay0, ih, Bool.and_self]
  have h2 : ∀ p : List Nat, PyData.depthAll (p.map fun (n : Nat) => PyData.int (n : Int)) = 0 := fun p => by
    induction p with
    | nil => rfl
    | cons n p ih => simp only [List.map_cons, PyData.depthAll, PyData.depth, ih]; rfl
  unfold SeqAt.shaped plD
  simp only [PyData.canLay0, PyData.depth, h1, h2]
  decide
theorem eqv_pl_nil (p : List Nat) : PyData.eqv (plD p) (.tuple []) = p.isEmpty := by
  cases p with
  | nil => simp [plD, PyData.eqv, PyData.eqvAll]
  | cons n p => simp [plD, PyData.eqv, PyData.eqvAll]
theorem cutV_from1 (xs : List V) : cutV xs (some 1) none = xs.drop 1 := by
  unfold cutV
  have e : HT.sIx xs.length 0 (some 1) = min 1 xs.length := HT.sIx_nat xs.length 0 1
  rw [HT.sIx_none, e]
  cases xs with
  | nil => rfl
  | cons x xs =>
    have : min 1 (x :: xs).length = 1 := by simp
    rw [this, List.drop_one, List.tail_cons]
    exact List.take_of_length_le (by simp)
end Tx

namespace Tx
open PySem PySem.Spec PyProof.Rows L2
/-! ## wrong places of any things, over data -/
/-- 0 thing, 1 at, 2 one, 3 found -/
abbrev sWrongD : Stmt := top 3
theorem scWrongD : FnScope ["thing", "at", "one", "found"] ["thing"] (defScope sWrongD) := ⟨rfl, rfl, rfl, by decide +kernel, rfl, by decide +kernel, by decide +kernel⟩
def plO : Option (List Nat) → PyData
  | none => .none
  | some p => plD p
def dsIsText : DSp := fun ts ω q _ => ∃ d, ts = [d] ∧ Ok d ∧ q (.bool (isTxt d)) ω
def dsWrong (n : Nat) : DSp := fun ts ω q _ => ∃ d, ts = [d] ∧ Ok d ∧ d.depth < n ∧ n ≤ 60 ∧ q (plO (wrongP d)) ω
theorem Ok.item {ds : List PyData} {d : PyData} (h : Ok (.list ds)) (hd : d ∈ ds) : Ok d := by
  obtain ⟨h1, h2, h3⟩ := h
  simp only [fine] at h1
  simp only [PyData.depth] at h2
  simp only [wt] at h3
  have := depth_mem hd
  have := wt_mem hd
  exact ⟨fineAll_iff.mp h1 d hd, by omega, by omega⟩
theorem enumD_get {xs : List PyData} {i : Nat} {y : PyData} (h : (enumD xs)[i]? = some y) : ∃ d, xs[i]? = some d ∧ y = .tuple [.int ((i : Nat) : Int), d] := by
  unfold enumD at h
  rw [List.getElem?_mapIdx] at h
  obtain ⟨d, e, rfl⟩ := Option.map_eq_some_iff.mp h
  exact ⟨d, e, rfl⟩
theorem enumD_len (xs : List PyData) : (enumD xs).length = xs.length := by unfold enumD; rw [List.length_mapIdx]
theorem sh_pl1 (p : List Nat) : SeqAt.shaped (.list [plD p]) = true := by
  have h := plD_shaped p
  have hd : (plD p).depth ≤ 1 := by
    unfold plD
    have := depthAll_le (n := 0) (xs := p.map fun (n : Nat) => PyData.int (n : Int)) fun d hd => by
      obtain ⟨n, _, rfl⟩ := List.mem_map.mp hd
      simp [PyData.depth]
    simp only [PyData.depth]
    omega
  unfold SeqAt.shaped at *
  simp only [Bool.and_eq_true, decide_eq_true_eq] at *
  refine ⟨by simp only [PyData.canLay0, PyData.canLayAll0, Bool.and_true]; exact h.1, ?_⟩
  simp only [PyData.depth, PyData.depthAll]
  omega
theorem any_abc {c : Nat} : (((("abcdefghijklmnopqrstuvwxyz" : Str)).cps.toList.map fun c => PyData.str ⟨#[c]⟩).any fun z => PyData.eqv z (.str ⟨#[c]⟩)) = decide (97 ≤ c ∧ c ≤ 122) := by
  rw [← abc_mem, List.any_map]
  induction (("abcdefghijklmnopqrstuvwxyz" : Str)).cps.toList with
  | nil => simp
  | cons a l ih =>
    rw [List.any_cons, ih]
    have e : ((fun z => PyData.eqv z (.str ⟨#[c]⟩)) ∘ fun c => PyData.str ⟨#[c]⟩) a = decide (c = a) := by
      show PyData.eqv (.str ⟨#[a]⟩) (.str ⟨#[c]⟩) = _
      rw [eqv_str]
      exact decide_eq_decide.mpr ⟨fun h => by have := congrArg (fun s : Str => s.cps.toList) h; simpa using this.symm, fun h => by rw [h]⟩
    rw [e]
    by_cases h : c = a <;> by_cases h2 : c ∈ l <;> simp [h, h2]
theorem isNn_pl {p : List Nat} : isNn (plD p) = false := rfl
section
variable {P : Program} {w : World} {K : PySem.W.Frag} {mg : Str → Option Value} {base : Heap} {C : Addr}
theorem dd_isText (D : Dfn P w K mg base CX0 1 "is_text" ["thing"] (spIsText K)) : Dfn P w K mg base CX0 1 "is_text" ["thing"] (spD K dsIsText) := by
  refine D.toD fun vs H Q E z => ?_
  obtain ⟨J, ω, ts, q, x, w, r, cq, cx, d, rfl, ok, z⟩ := z
  cases r with
  | cons r1 r2 =>
  cases r2
  exact ⟨_, d, rfl, dp_mono w.jh _ _ (rp_dp _ _ (fine_lay d ok.1) r1), ok.2.2, fun H' sm => cq _ _ _ _ _ z (same_grow w sm).1 (same_grow w sm).2 (.bl _)⟩
theorem dd_wrongD (h : Has K mg "wrong_place" sWrongD) (B : Bi mg) (D_is_text : Dfn P w K mg base CX0 1 "is_text" ["thing"] (spD K dsIsText)) : ∀ n, Dfn P w K mg base CX0 (n + 1) "wrong_place" ["thing"] (spD K (dsWrong n))
  | 0 => (dfnD_none h (fun _ _ _ _ _ _ us hl => match us, hl with | [_], _ => rfl) fun ts ω q xx z => by
    obtain ⟨d, _, _, z, _⟩ := z
    omega).mono (by omega)
  | n + 1 => by
    have D_wrong_place := dd_wrongD h B D_is_text n
    refine dfnD (k := n + 1) h B scWrongD (fun _ _ _ _ _ _ us hl => match us, hl with | [_], _ => rfl) (fun ts ω q xx h => ?_) (fun f cv A out s H E c => ⟨_, (dss_cons (ds_if (dt_val (de_isi (T := "list") rfl kit_list (by rfl) c.b.isinstance (de_var (pv 0)) (pe_bltn (v := .ty "list") (by rfl) c.b.list (by decide +kernel) rfl))) (dss_cons (ds_for PassesOwn.never rfl (di_enum rfl (by rfl) c.b.enumerate (da_cons (de_var (pv 0)) da_nil)) (dg_tup rfl rfl (dgs_cons (dg_name (pg_name (i := 1) scWrongD.nd rfl (Or.inl rfl))) (dgs_cons (dg_name (pg_name (i := 2) scWrongD.nd rfl (Or.inl rfl))) dgs_nil)))
    (dss_cons (ds_set (i := 3) scWrongD.nd rfl (Or.inl rfl) (de_d D_wrong_place c (by omega) (by rfl) (da_cons (de_var (pv 2)) da_nil)))
    (dss_one (ds_if (dt_cmp (do_isnot rfl) (de_var (pv 3)) de_non (nomark _)) (dss_one (ds_ret (de_op (do_add rfl) (de_tup (da_cons (de_var (pv 1)) da_nil)) (de_var (pv 3))))) dss_nil))))
    (dss_one (ds_ret de_non))) dss_nil)
    (dss_one (ds_ret (de_if (DW.dt (dw_or (dt_cmp (do_is rfl) (de_var (pv 0)) de_non (nomark _)) (dw_or1 (dt_val (de_d D_is_text c (by omega) (by rfl) (da_cons (de_var (pv 0)) da_nil)))))) de_non (de_tup da_nil))))), fun ts ω q xx z => ?_⟩)
    · obtain ⟨d, rfl, _⟩ := h
      rfl
    obtain ⟨d, rfl, ok, dn, hn, z⟩ := z
    cases d with
    | list ds =>
      refine ⟨trivial, iteT ?_⟩
      have zw : ∀ r, wrongAll 0 ds = r → q (plO r) ω := fun r e => by
        rw [← e]
        exact z
      refine ⟨fun i ρ ω' => ∃ u1 u2 u3 : Option PyData, ρ = [some (.list ds), u1, u2, u3] ∧ ω' = ω ∧ wrongAll 0 ds = wrongAll i (ds.drop i), ⟨none, none, none, rfl, rfl, rfl⟩, ?_, ?_⟩
      · rintro i y ρ ω' hy ⟨u1, u2, u3, rfl, rfl, ew⟩
        obtain ⟨d, ed, rfl⟩ := enumD_get hy
        have hm := List.mem_of_getElem? ed
        have okd := ok.item hm
        have dd := depth_mem hm
        simp only [PyData.depth] at dn
        refine ⟨rfl, rfl, ?_⟩
        refine ⟨d, rfl, okd, by omega, by omega, ?_⟩
        cases e : wrongP d with
        | some p =>
          have hl := wrong_len d p e
          have := okd.2.1
          refine ⟨rfl, iteT ⟨by show 1 ≤ sizeLine; decide, ?_⟩⟩
          refine ⟨by show 1 + (p.map _).length ≤ sizeLine; rw [List.length_map]; exact Nat.le_trans (by omega : _ ≤ 100) (by decide), ?_⟩
          exact zw _ (wrongAll_at ed e ew)
        | none =>
          refine ⟨rfl, iteF ?_⟩
          exact ⟨_, _, _, rfl, rfl, wrongAll_drop ed e ew⟩
      · rintro ρ ω' ⟨u1, u2, u3, rfl, rfl, ew⟩
        rw [enumD_len, List.drop_length] at ew
        exact zw _ ew
    | none => exact ⟨trivial, iteF ⟨rfl, iteT z⟩⟩
    | str x =>
      refine ⟨trivial, iteF ⟨rfl, iteF ⟨_, rfl, ok, ?_⟩⟩⟩
      simp only [wrongP] at z
      cases e : ltr x with
      | true =>
        rw [e] at z
        simp only [isTxt, e]
        exact z
      | false =>
        rw [e] at z
        simp only [isTxt, e]
        exact ⟨by decide, z⟩
    | bool b => exact ⟨trivial, iteF ⟨rfl, iteF ⟨_, rfl, ok, iteF ⟨by decide, z⟩⟩⟩⟩
    | int i => exact ⟨trivial, iteF ⟨rfl, iteF ⟨_, rfl, ok, iteF ⟨by decide, z⟩⟩⟩⟩
    | tuple es => exact ⟨trivial, iteF ⟨rfl, iteF ⟨_, rfl, ok, iteF ⟨by decide, z⟩⟩⟩⟩
    | dict l => have := ok.1; simp [fine] at this
end
end Tx

namespace Tx
open PySem PySem.Spec PyProof.Rows L2
/-! ## The program's copied -/
abbrev sCopied : Stmt := top 5
theorem scCopied : FnScope ["value", "one"] ["value"] (defScope sCopied) := ⟨rfl, rfl, rfl, by decide +kernel, rfl, by decide +kernel, by decide +kernel⟩
/-- copied(v): a new thing of new lists -/
def spCopied (K : PySem.W.Frag) (n : Nat) : Sp := fun vs H Q _ => ∃ (v : V) (d : PyData), vs = [v] ∧ Dp K H v d ∧ isVal d = true ∧ d.depth < n ∧ szD d ≤ 1000000 ∧
  ∀ u H', Same H H' → Nw 0 H' d (fun a => H a ≠ none) u → Q u H'
section
variable {P : Program} {w : World} {K : PySem.W.Frag} {mg : Str → Option Value} {base : Heap}
theorem d_copied (h : Has K mg "copied" sCopied) (B : Bi mg) : ∀ n, Dfn P w K mg base CX0 n "copied" ["value"] (spCopied K n)
  | 0 => dfn_none h (fun _ _ _ _ _ _ us hl => match us, hl with | [_], _ => rfl) fun vs H Q E z => by
    obtain ⟨_, _, _, _, _, z, _⟩ := z
    omega
  | n + 1 => by
    have D_copied := d_copied h B n
    refine dfn0 h B scCopied (fun _ _ _ _ _ _ us hl => match us, hl with | [_], _ => rfl) (fun vs H Q E h => ?_) (fun f cv A out s H vs Q E c h => ?_)
    · obtain ⟨v, d, rfl, _⟩ := h
      rfl
    obtain ⟨v, d, rfl, hd, val, dn, sz, q⟩ := h
    refine ⟨_, (pss_cons (ps_if (pt_val (pe_callB (call_isD (T := "list")) (by rfl) c.b.isinstance (by decide +kernel) (pa_cons (pv 0) (pa_cons (pe_bltn (v := .ty "list") (by rfl) c.b.list (by decide +kernel) rfl) pa_nil)))) (pss_one (ps_ret (pe_lc (own := [("one", 1)]) (g := (gName 1)) (tt := tYes) rfl scCopied.nd (pi_list (pv 0)) (blkOk_by (own := [("one", 1)]) (N := ["value", "one"]) (sc := defScope sCopied) (by decide +kernel)) (fun _ _ _ _ _ => (pg_name (i := 1) scCopied.nd rfl (Or.inl rfl))) (fun _ _ _ _ _ => pts_nil) (fun _ _ _ _ _ => (pe_d D_copied c (by omega) (by rfl) (pa_cons (pv 1) pa_nil)))))) pss_nil)
    (pss_one (ps_ret (pv 0)))), ?_⟩
    refine ⟨_, rfl, _, d, _, rfl, hd, kit_list _, _, rfl, ?_⟩
    cases d with
    | none =>
      cases hd
      exact iteF ⟨_, rfl, q _ _ (Same.refl _) (by simp only [Nw])⟩
    | str x =>
      cases hd
      exact iteF ⟨_, rfl, q _ _ (Same.refl _) (by simp only [Nw])⟩
    | list ds =>
      refine iteT ?_
      cases hd with
      | @lst a xs _ hs ha =>
      have sx : szD (.list ds) = 1 + szAll ds := by simp [szD]
      have hlen := DpAll.length ha
      have hle := len_le_szAll ds
      simp only [PyData.depth] at dn
      simp only [isVal] at val
      refine ⟨_, rfl, a, rfl, ⟨_, hs⟩, fun L hL => ?_⟩
      refine lc_list (K := K) (a := a) (xs := xs) (fun i H' => Same H H' ∧ ∃ us, H' L = some (.lst us) ∧ NwAll 0 H' (ds.take i) (fun x => H x ≠ none ∨ x = L) us)
        ⟨same_new hL _, [], upd_same, by rw [List.take_zero]; simp only [NwAll]⟩ (fun i H' _ z => z.1.seq hs) ?_ ?_
      · rintro i x H1 hx ⟨sm, us, hL1, hN⟩
        obtain ⟨d, e1, e2⟩ := DpAll.get ha hx
        have hm := List.mem_of_getElem? e1
        have hi : i < ds.length := (List.getElem?_eq_some_iff.mp e1).1
        have hul := hN.len
        rw [List.length_take] at hul
        refine ⟨rfl, _, rfl, _, d, rfl, dp_mono sm d _ e2, isValAll_iff.mp val d hm, ?_, ?_, fun u H2 sm2 hu => ?_⟩
        · have := depth_mem hm
          omega
        · have := szD_mem hm
          omega
        have up : ∀ (a : Addr) (o : HO), ¬ (H a ≠ none ∨ a = L) → H2 a = some o → upd H2 L (.lst (us ++ [u])) a = some o := fun a o n e => by
          rw [upd_ne fun z => n (.inr z)]; exact e
        refine ⟨us, sm2 _ _ hL1, ?_, (fun b o e => ?_), us ++ [u], upd_same, ?_⟩
        · rw [sizeLine_eq]
          omega
        · rw [upd_ne (ne_of_none e hL)]
          exact sm2 _ _ (sm _ _ e)
        · rw [List.take_add_one, e1]
          refine NwAll.append (NwAll.to (Nat.le_refl _) _ _ _ _ (fun _ z => z) (fun a o n e => up a o n (sm2 _ _ e)) hN) (NwAll.one (Nw.to (Nat.le_refl _) d _ _ u (fun a z => ?_) (fun a o n e => ?_) hu))
          · rcases z with z | z
            · cases q : H a with
              | none => exact absurd q z
              | some o => rw [sm _ _ q]; simp
            · rw [z, hL1]; simp
          · rw [upd_ne fun z => n (by rw [z, hL1]; simp)]; exact e
      · rintro H1 ⟨sm, us, hL1, hN⟩
        rw [hlen, List.take_length] at hN
        refine q _ _ sm ?_
        simp only [Nw]
        exact ⟨L, us, 0, rfl, fun z => z hL, by rw [List.replicate_zero, List.append_nil]; exact hL1, Nat.le_refl _, hN⟩
    | bool _ => simp [isVal] at val
    | int _ => simp [isVal] at val
    | tuple _ => simp [isVal] at val
    | dict _ => simp [isVal] at val
end
end Tx

namespace Tx
open PySem PySem.Spec PyProof.Rows L2
/-! ## New things of new lists: from the kit's rules to cells; what spoils them -/
section
variable {K : PySem.W.Frag}
mutual
theorem nw_rp {H N : Hp} : ∀ (d : PyData) (B : Addr → Prop) (v : V), Nw 0 H d B v → (∀ a o, ¬ B a → H a = some o → N a = some o) → Rp K N v d
  | .none, _, _, h, _ => by simp only [Nw] at h; subst h; exact .non
  | .str x, _, _, h, _ => by simp only [Nw] at h; subst h; exact .str x
  | .list ds, B, v, h, k => by
    simp only [Nw] at h
    obtain ⟨a, vs, i, rfl, n, ha, hi, hA⟩ := h
    obtain rfl : i = 0 := by omega
    rw [List.replicate_zero, List.append_nil] at ha
    exact .lst (k a _ n ha) (nwAll_rp ds _ vs hA fun b o nb hb => k b o (fun z => nb (.inl z)) hb)
  | .bool _, _, _, h, _ => by simp only [Nw] at h
  | .int _, _, _, h, _ => by simp only [Nw] at h
  | .tuple _, _, _, h, _ => by simp only [Nw] at h
  | .dict _, _, _, h, _ => by simp only [Nw] at h
theorem nwAll_rp {H N : Hp} : ∀ (ds : List PyData) (B : Addr → Prop) (vs : List V), NwAll 0 H ds B vs → (∀ a o, ¬ B a → H a = some o → N a = some o) → RpAll K N vs ds
  | [], _, _, h, _ => by simp only [NwAll] at h; subst h; exact .nil
  | d :: ds, B, vs, h, k => by
    simp only [NwAll] at h
    obtain ⟨v, ws, rfl, h1, h2⟩ := h
    exact .cons (nw_rp d B v h1 k) (nwAll_rp ds B ws h2 k)
end
open Classical in
/-- what is new in H' -/
noncomputable def newIn (H H' : Hp) : Hp := fun a => if H a = none then H' a else none
theorem newIn_some {H H' : Hp} {a : Addr} {o : HO} (h : H a = none) (e : H' a = some o) : newIn H H' a = some o := by unfold newIn; rw [if_pos h]; exact e
theorem newIn_new {H H' : Hp} {b : Addr} (h : newIn H H' b ≠ none) : H b = none := by
  unfold newIn at h
  split at h
  · assumption
  · exact absurd rfl h
theorem newIn_same {H H' : Hp} : Same (newIn H H') H' := fun a o e => by
  unfold newIn at e
  split at e
  · exact e
  · cases e
theorem nw_tm {J H H' : Hp} {ω : Wd} {q : DQ} {Q : VK} {v : V} {d : PyData} (w : Rw K J H ω) (s : Same H H') (cq : CovQ K J H ω q Q) (h : Nw 0 H' d (fun a => H a ≠ none) v) (val : isVal d = true) (z : ∀ u ω', Tm ω u d ω' → q u ω') : Q v H' := by
  obtain ⟨g1, w1⟩ := same_grow w s
  exact tm_cov (N := newIn H H') w g1 w1 cq (fun b nb => newIn_new nb) newIn_same (nw_rp d _ v h fun a o n e => newIn_some (Classical.not_not.mp n) e) val z
/-! ### the way back -/
mutual
theorem rp_fun {J : Hp} : ∀ (d e : PyData) (v : V), isVal d = true → isVal e = true → Rp K J v d → Rp K J v e → d = e
  | .none, e, _, _, he, h, g => by
    cases h
    cases g
    rfl
  | .str x, e, _, _, he, h, g => by
    cases h
    cases g
    rfl
  | .list ds, e, _, hd, he, h, g => by
    cases h with
    | lst hs ha =>
      cases g with
      | lst hs2 ha2 =>
        rw [hs] at hs2
        cases hs2
        simp only [isVal] at hd he
        rw [rpAll_fun ds _ _ hd he ha ha2]
      | tup _ _ => simp [isVal] at he
      | ref _ => simp [isVal] at he
      | scr _ => simp [isVal] at he
      | pub _ => simp [isVal] at he
      | dic _ _ => simp [isVal] at he
      | obj _ _ => simp [isVal] at he
  | .bool _, _, _, hd, _, _, _ => by simp [isVal] at hd
  | .int _, _, _, hd, _, _, _ => by simp [isVal] at hd
  | .tuple _, _, _, hd, _, _, _ => by simp [isVal] at hd
  | .dict _, _, _, hd, _, _, _ => by simp [isVal] at hd
theorem rpAll_fun {J : Hp} : ∀ (ds es : List PyData) (vs : List V), isValAll ds = true → isValAll es = true → RpAll K J vs ds → RpAll K J vs es → ds = es
  | [], _, _, _, _, h, g => by cases h; cases g; rfl
  | d :: ds, es, _, hd, he, h, g => by
    cases h with
    | cons h1 h2 =>
      cases g with
      | @cons _ _ e es' g1 g2 =>
        simp only [isValAll, Bool.and_eq_true] at hd he
        rw [rp_fun d e _ hd.1 he.1 h1 g1, rpAll_fun ds es' _ hd.2 he.2 h2 g2]
end
mutual
theorem rp_nw {N H : Hp} (s : Same N H) : ∀ (d : PyData) (B : Addr → Prop) (v : V), isVal d = true → Rp K N v d → (∀ x, B x → N x = none ∨ ∃ d', isVal d' = true ∧ Rp K N (.ref x) d' ∧ d.depth < d'.depth) → Nw 0 H d B v
  | .none, _, _, _, h, _ => by cases h; simp only [Nw]
  | .str x, _, _, _, h, _ => by cases h; simp only [Nw]
  | .list ds, B, v, hv, h, hB => by
    cases h with
    | @lst a vs _ hs ha =>
      simp only [Nw]
      refine ⟨a, vs, 0, rfl, fun z => ?_, by rw [List.replicate_zero, List.append_nil]; exact s _ _ hs, Nat.le_refl _, rpAll_nw s ds _ vs (by simpa only [isVal] using hv) ha fun x hx => ?_⟩
      · rcases hB a z with e | ⟨d', h1, h2, h3⟩
        · rw [hs] at e; cases e
        · rw [rp_fun _ _ _ hv h1 (.lst hs ha) h2] at h3
          exact absurd h3 (Nat.lt_irrefl _)
      · rcases hx with hx | rfl
        · rcases hB x hx with e | ⟨d', h1, h2, h3⟩
          · exact .inl e
          · refine .inr ⟨d', h1, h2, ?_⟩
            simp only [PyData.depth] at h3
            omega
        · refine .inr ⟨.list ds, hv, .lst hs ha, ?_⟩
          simp only [PyData.depth]
          omega
  | .bool _, _, _, hd, _, _ => by simp [isVal] at hd
  | .int _, _, _, hd, _, _ => by simp [isVal] at hd
  | .tuple _, _, _, hd, _, _ => by simp [isVal] at hd
  | .dict _, _, _, hd, _, _ => by simp [isVal] at hd
theorem rpAll_nw {N H : Hp} (s : Same N H) : ∀ (ds : List PyData) (B : Addr → Prop) (vs : List V), isValAll ds = true → RpAll K N vs ds → (∀ x, B x → N x = none ∨ ∃ d', isVal d' = true ∧ Rp K N (.ref x) d' ∧ PyData.depthAll ds < d'.depth) → NwAll 0 H ds B vs
  | [], _, _, _, h, _ => by cases h; simp only [NwAll]
  | d :: ds, B, _, hv, h, hB => by
    simp only [isValAll, Bool.and_eq_true] at hv
    cases h with
    | @cons v vs _ _ h1 h2 =>
      simp only [NwAll]
      refine ⟨v, vs, rfl, rp_nw s d B v hv.1 h1 fun x hx => ?_, rpAll_nw s ds B vs hv.2 h2 fun x hx => ?_⟩
      · rcases hB x hx with e | ⟨d', g1, g2, g3⟩
        · exact .inl e
        · simp only [PyData.depthAll] at g3
          exact .inr ⟨d', g1, g2, by omega⟩
      · rcases hB x hx with e | ⟨d', g1, g2, g3⟩
        · exact .inl e
        · simp only [PyData.depthAll] at g3
          exact .inr ⟨d', g1, g2, by omega⟩
end
end
def dsCopied (n : Nat) : DSp := fun ts ω q _ => ∃ d, ts = [d] ∧ isVal d = true ∧ d.depth < n ∧ szD d ≤ 1000000 ∧ ∀ u ω', Tm ω u d ω' → q u ω'
/-- spoil(v), v a new thing -/
def dsSpoil (n : Nat) : DSp := fun ts ω q _ => ∃ v d ω0, ts = [v] ∧ Tm ω0 v d ω ∧ isVal d = true ∧ d.depth < n ∧ szD d ≤ 400000 ∧ q .none ω0
section
variable {P : Program} {w : World} {K : PySem.W.Frag} {mg : Str → Option Value} {base : Heap}
theorem dd_copied (h : Has K mg "copied" sCopied) (B : Bi mg) (n : Nat) : Dfn P w K mg base CX0 n "copied" ["value"] (spD K (dsCopied n)) := by
  refine (d_copied h B n).toD fun vs H Q E z => ?_
  obtain ⟨J, ω, ts, q, x, w, r, cq, cx, d, rfl, val, dn, sz, z⟩ := z
  cases r with
  | cons r1 r2 =>
  cases r2
  exact ⟨_, d, rfl, val_dp w.jh r1 val, val, dn, sz, fun u H' sm hu => nw_tm w sm cq hu val z⟩
end
end Tx

namespace Tx
open PySem PySem.Spec PyProof.Rows L2
/-! ## Classes over data: steps of the telling, methods, new instances, fields -/
/-- some state is told so -/
def Lw (ω : Wd) : Prop := ∃ K J H, Rw K J H ω
/-- a step of the telling alone -/
def Gh (ω ω1 : Wd) : Prop := ∀ K J H, Rw K J H ω → ∃ J1, Rw K J1 H ω1 ∧ Grow J H ω J1 H ω1
theorem Gh.refl {ω : Wd} : Gh ω ω := fun _ J _ w => ⟨J, w, Grow.refl⟩
theorem Gh.trans {ω ω1 ω2 : Wd} (a : Gh ω ω1) (b : Gh ω1 ω2) : Gh ω ω2 := fun K J H w => by
  obtain ⟨J1, w1, g1⟩ := a K J H w
  obtain ⟨J2, w2, g2⟩ := b K J1 H w1
  exact ⟨J2, w2, g1.trans g2⟩
theorem Gh.sub {ω ω1 : Wd} (s : SubW ω1 ω) : Gh ω ω1 := fun _ J _ w => ⟨J, w.sub s, s.grow⟩
section
variable {K : PySem.W.Frag} {J H : Hp} {ω : Wd} {a b C dx p : Addr} {f : Str} {ds : List PyData} {m : MO}
theorem Rw.ent (w : Rw K J H ω) (h : ω a = some (.ent C dx p f ds)) : p ≠ a ∧ ω p = none ∧ J p = none ∧ ∀ c m', c ≠ a → ω c = some m' → ¬ m'.priv p := by
  obtain ⟨e1, vs, e2, _⟩ := w.cell a _ h
  have ne : p ≠ a := fun e => by rw [e, e1] at e2; cases e2
  obtain ⟨t1, t2, t3⟩ := w.tmp a _ h p rfl
  exact ⟨ne, t2 ne, t1, t3⟩
theorem Lw.ent (l : Lw ω) (h : ω a = some (.ent C dx p f ds)) : p ≠ a ∧ ω p = none := by
  obtain ⟨K, J, H, w⟩ := l
  exact ⟨(w.ent h).1, (w.ent h).2.1⟩
/-- an instance and its list become two cells -/
def opn (ω : Wd) (a C dx p : Addr) (f : Str) (ds : List PyData) : Wd := updW (updW ω a (.ins C dx [(f, refD p)])) p (.lst ds)
theorem opn_p : opn ω a C dx p f ds p = some (.lst ds) := updW_same
theorem opn_a (n : p ≠ a) : opn ω a C dx p f ds a = some (.ins C dx [(f, refD p)]) := by
  unfold opn
  rw [updW_ne (Ne.symm n), updW_same]
theorem opn_ne (h1 : b ≠ a) (h2 : b ≠ p) : opn ω a C dx p f ds b = ω b := by
  unfold opn
  rw [updW_ne h2, updW_ne h1]
theorem Gh.open (h : ω a = some (.ent C dx p f ds)) : Gh ω (opn ω a C dx p f ds) := fun K J H w => by
  obtain ⟨ne, hp, jp, pp⟩ := w.ent h
  obtain ⟨e1, vs, e2, r⟩ := w.cell a _ h
  have ja := w.out a _ h
  refine ⟨J, w.step (Same.refl _) w.jh (fun _ _ j => j) fun b m e => ?_, Same.refl _, fun _ z => z, fun _ _ z _ => z, fun _ _ _ j => j, fun b _ z => ?_⟩
  · by_cases e3 : b = p
    · subst e3
      rw [opn_p] at e
      cases e
      refine .inr ⟨jp, ⟨vs, e2, r⟩, fun _ z => False.elim z, fun c m' nc ec => ⟨?_, fun _ z => False.elim z⟩⟩
      by_cases e4 : c = a
      · subst e4; rw [opn_a ne] at ec; cases ec; exact id
      · rw [opn_ne e4 nc] at ec; exact pp c m' e4 ec
    · by_cases e4 : b = a
      · subst e4
        rw [opn_a ne] at e
        cases e
        refine .inr ⟨ja, ⟨_, e1, .cons ⟨rfl, .ref p⟩ .nil⟩, fun _ z => False.elim z, fun c m' nc ec => ⟨?_, fun _ z => False.elim z⟩⟩
        by_cases e5 : c = p
        · subst e5; rw [opn_p] at ec; cases ec; exact id
        · rw [opn_ne nc e5] at ec; exact w.apart h nc ec
      · rw [opn_ne e4 e3] at e
        exact .inl ⟨e, fun _ _ _ z => z⟩
  · have n1 : b ≠ a := fr_ne0 h z
    have n2 : b ≠ p := fun e => z.2 a _ h e
    refine ⟨by rw [opn_ne n1 n2]; exact z.1, fun c m' ec => ?_⟩
    by_cases e5 : c = p
    · subst e5; rw [opn_p] at ec; cases ec; exact id
    · by_cases e4 : c = a
      · subst e4; rw [opn_a ne] at ec; cases ec; exact id
      · rw [opn_ne e4 e5] at ec; exact z.2 c m' ec
/-- and one again -/
def cls (ω : Wd) (a C dx p : Addr) (f : Str) (ds : List PyData) : Wd := updW (delW ω p) a (.ent C dx p f ds)
theorem cls_a : cls ω a C dx p f ds a = some (.ent C dx p f ds) := updW_same
theorem cls_ne (h1 : b ≠ a) (h2 : b ≠ p) : cls ω a C dx p f ds b = ω b := by
  unfold cls
  rw [updW_ne h1, delW_ne h2]
theorem cls_p (n : p ≠ a) : cls ω a C dx p f ds p = none := by
  unfold cls
  rw [updW_ne n, delW_same]
theorem Gh.close (ha : ω a = some (.ins C dx [(f, refD p)])) (hp : ω p = some (.lst ds)) : Gh ω (cls ω a C dx p f ds) := fun K J H w => by
  obtain ⟨gs, e1, r1⟩ := w.cell a _ ha
  obtain ⟨vs, e2, r⟩ := w.cell p _ hp
  have ne : p ≠ a := fun e => by rw [e, e1] at e2; cases e2
  have eg : gs = [(f, .ref p)] := by
    cases r1 with
    | cons h t =>
      cases t
      obtain ⟨h1, h2⟩ := h
      rename_i g
      obtain ⟨g1, g2⟩ := g
      simp only at h1 h2
      rw [h1, rp_ref h2]
  subst eg
  refine ⟨J, w.step (Same.refl _) w.jh (fun _ _ j => j) fun b m e => ?_, Same.refl _, fun _ z => z, fun _ _ z _ => z, fun _ _ _ j => j, fun b _ z => ?_⟩
  · by_cases e4 : b = a
    · subst e4
      rw [cls_a] at e
      cases e
      refine .inr ⟨w.out _ _ ha, ⟨e1, vs, e2, r⟩, fun b' pb => ?_, fun c m' nc ec => ?_⟩
      · rw [show b' = p from pb]
        exact ⟨w.out _ _ hp, fun _ => cls_p ne⟩
      · have cp : c ≠ p := fun e => by rw [e, cls_p ne] at ec; cases ec
        rw [cls_ne nc cp] at ec
        refine ⟨w.apart ha nc ec, fun b' pb => ?_⟩
        rw [show b' = p from pb]
        exact w.apart hp cp ec
    · have bp : b ≠ p := fun z => by rw [z, cls_p ne] at e; cases e
      rw [cls_ne e4 bp] at e
      exact .inl ⟨e, fun _ _ _ z => z⟩
  · have n1 : b ≠ a := fr_ne0 ha z
    have n2 : b ≠ p := fr_ne0 hp z
    refine ⟨by rw [cls_ne n1 n2]; exact z.1, fun c m' ec => ?_⟩
    by_cases e4 : c = a
    · subst e4; rw [cls_a] at ec; cases ec; exact n2
    · have cp : c ≠ p := fun e => by rw [e, cls_p ne] at ec; cases ec
      rw [cls_ne e4 cp] at ec
      exact z.2 c m' ec
/-- opened and closed again, the list another -/
theorem cls_opn {es : List PyData} (hp : ω p = none) (ne : p ≠ a) : cls (updW (opn ω a C dx p f ds) p (.lst es)) a C dx p f es = updW ω a (.ent C dx p f es) := by
  funext b
  by_cases e1 : b = a
  · rw [e1, cls_a, updW_same]
  · by_cases e2 : b = p
    · rw [e2, cls_p ne, updW_ne ne, hp]
    · rw [cls_ne e1 e2, updW_ne e2, opn_ne e1 e2, updW_ne e1]
theorem cls_opn0 (h : ω a = some (.ent C dx p f ds)) (hp : ω p = none) (ne : p ≠ a) : cls (opn ω a C dx p f ds) a C dx p f ds = ω := by
  funext b
  by_cases e1 : b = a
  · rw [e1, cls_a, h]
  · by_cases e2 : b = p
    · rw [e2, cls_p ne, hp]
    · rw [cls_ne e1 e2, opn_ne e1 e2]
end
theorem XdOk.gh {K : PySem.W.Frag} {H0 J J1 H : Hp} {ω ω1 : Wd} {d : Option Addr} {fs : List (Str × PyData)} (h : XdOk K H0 J H ω d fs) (g : Grow J H ω J1 H ω1) : XdOk K H0 J1 H ω1 d fs := by
  cases d with
  | none => exact h
  | some dd =>
    obtain ⟨a, b, c, gs, e, r⟩ := h
    have n : H dd ≠ none := by rw [e]; simp
    exact ⟨a, g.frj dd n c b, g.frw dd n c, gs, e, r.mono g.jj⟩
def dGhE (te : DTE) (ρ : DS) (ω : Wd) (q : DQ) (x : DXK) : Prop := Lw ω → ∃ ω1, Gh ω ω1 ∧ te ρ ω1 (fun r ω2 => Lw ω2 → ∃ ω3, Gh ω2 ω3 ∧ q r ω3) (fun C fs ω2 => Lw ω2 → ∃ ω3, Gh ω2 ω3 ∧ x C fs ω3)
def ghEnds (D : DEnds) : DEnds := ⟨fun ρ ω => Lw ω → ∃ ω1, Gh ω ω1 ∧ D.nx ρ ω1, fun r ω => Lw ω → ∃ ω1, Gh ω ω1 ∧ D.rt r ω1, fun ρ ω => Lw ω → ∃ ω1, Gh ω ω1 ∧ D.bk ρ ω1, fun ρ ω => Lw ω → ∃ ω1, Gh ω ω1 ∧ D.ct ρ ω1, fun C fs ρ ω => Lw ω → ∃ ω1, Gh ω ω1 ∧ D.xc C fs ρ ω1⟩
def dGhS (t : DTS) (D : DEnds) (ρ : DS) (ω : Wd) : Prop := Lw ω → ∃ ω1, Gh ω ω1 ∧ t (ghEnds D) ρ ω1
section
variable {W : WX} {X : Cx} {K : PySem.W.Frag} {e : Expr} {st : Stmt} {ss : List Stmt} {te : DTE} {t : DTS}
theorem CovQ.gh {J H : Hp} {ω : Wd} {q : DQ} {Q : VK} (c : CovQ K J H ω q Q) : CovQ K J H ω (fun r ω2 => Lw ω2 → ∃ ω3, Gh ω2 ω3 ∧ q r ω3) Q := fun r ω' v J' H' z g w rp => by
  obtain ⟨ω3, g3, z⟩ := z ⟨_, _, _, w⟩
  obtain ⟨J3, w3, k3⟩ := g3 _ _ _ w
  exact c _ _ _ _ _ z (g.trans k3) w3 (rp_mono k3.jj _ _ rp)
theorem CovX.gh {J H : Hp} {ω : Wd} {x : DXK} {E : XK} (c : CovX K J H ω x E) : CovX K J H ω (fun C fs ω2 => Lw ω2 → ∃ ω3, Gh ω2 ω3 ∧ x C fs ω3) E := fun C fs ω' d J' H' z g w xd => by
  obtain ⟨ω3, g3, z⟩ := z ⟨_, _, _, w⟩
  obtain ⟨J3, w3, k3⟩ := g3 _ _ _ w
  exact c _ _ _ _ _ _ z (g.trans k3) w3 (xd.gh k3)
theorem CovS.gh {J H : Hp} {ω : Wd} {DD : DEnds} {D : Ends} (c : CovS K J H ω W DD D) : CovS K J H ω W (ghEnds DD) D := by
  refine ⟨fun ρ' ω' σ' J' H' z g w s => ?_, fun ρ' ω' σ' J' H' z g w s => ?_, fun ρ' ω' σ' J' H' z g w s => ?_, c.rt.gh, fun C fs ρ' ω' d σ' J' H' z g w s xd => ?_⟩ <;>
  · obtain ⟨ω3, g3, z⟩ := z ⟨_, _, _, w⟩
    obtain ⟨J3, w3, k3⟩ := g3 _ _ _ w
    first
      | exact c.nx _ _ _ _ _ z (g.trans k3) w3 (s.mono k3.jj)
      | exact c.bk _ _ _ _ _ z (g.trans k3) w3 (s.mono k3.jj)
      | exact c.ct _ _ _ _ _ z (g.trans k3) w3 (s.mono k3.jj)
      | exact c.xc _ _ _ _ _ _ _ _ z (g.trans k3) w3 (s.mono k3.jj) (xd.gh k3)
theorem de_gh (h : DE W X K e te) : DE W X K e (dGhE te) := by
  obtain ⟨r, p, k⟩ := h
  refine ⟨r, p, fun σ H J ω ρ q x Q w s cq cx z => ?_⟩
  obtain ⟨ω1, g1, z1⟩ := z ⟨_, _, _, w⟩
  obtain ⟨J1, w1, k1⟩ := g1 _ _ _ w
  exact k σ H J1 ω1 ρ _ _ Q w1 (s.mono k1.jj) (cq.step k1).gh (cx.step k1).gh z1
theorem dss_gh (h : DSs W X K ss t) : DSs W X K ss (dGhS t) := by
  obtain ⟨r, p, k⟩ := h
  refine ⟨r, p, fun D DD σ H J ω ρ w s cs z => ?_⟩
  obtain ⟨ω1, g1, z1⟩ := z ⟨_, _, _, w⟩
  obtain ⟨J1, w1, k1⟩ := g1 _ _ _ w
  exact k D _ σ H J1 ω1 ρ w1 (s.mono k1.jj) (cs.step k1).gh z1
theorem ds_gh (h : DSt W X K st t) : DSt W X K st (dGhS t) := by
  obtain ⟨r, p, k⟩ := h
  refine ⟨r, p, fun D DD σ H J ω ρ w s cs z => ?_⟩
  obtain ⟨ω1, g1, z1⟩ := z ⟨_, _, _, w⟩
  obtain ⟨J1, w1, k1⟩ := g1 _ _ _ w
  exact k D _ σ H J1 ω1 ρ w1 (s.mono k1.jj) (cs.step k1).gh z1
/-- what is never reached -/
def dNever (_ : DEnds) (_ : DS) (_ : Wd) : Prop := False
theorem ds_never : DSt W X K st dNever := ⟨fun _ _ _ => False, ⟨fun _ _ _ _ _ _ z => False.elim z⟩, fun _ _ _ _ _ _ _ _ _ _ z => z⟩
end
end Tx

namespace Tx
open PySem PySem.Spec PyProof.Rows L2
/-! ## Methods, new instances, fields -/
/-- a method of the class at C -/
def HasM (K : PySem.W.Frag) (C : Addr) (m qual : Str) (st : Stmt) : Prop := ∃ (f : Addr) (fd : FuncData), Fun K m qual st f fd ∧ Meth K C m f
theorem hasM_of {K : PySem.W.Frag} {C f : Addr} {m qual : Str} {st : Stmt} {oc kV dc pm cd ct : Value} {od an : Option Addr} {sl : Array (Option Value)} (a : PySem.W.findIn K (.ref C) m = some (some (.ref f)))
    (l : K.lookup f = some ⟨oc, od, .func (PySem.W.fnOf m qual (defArgs st) (defBody st) (defScope st) .none kV dc pm an cd ct), sl⟩)
    (c : PySem.W.codeIn K cd qual = true) (k : PySem.W.keepIn K (.ref f) = true) (i : PySem.W.isFn K (.ref f) = true) : HasM K C m qual st := ⟨f, _, fun_mk l c k, a, i, k⟩
def BindsByQ (x qual : Str) (st : Stmt) (ps : List Str) : Prop := ∀ (kV doc pm : Value) (an : Option Addr) (cdv ct : Value) (us : List Value), us.length = ps.length →
  bindArgs (PySem.W.fnOf x qual (defArgs st) (defBody st) (defScope st) .none kV doc pm an cdv ct) ⟨us, []⟩ = pure (ps.zip us)
/-- a method and its promise -/
def Mfn (P : Program) (w : World) (K : PySem.W.Frag) (mg : Str → Option Value) (base : Heap) (CX : CXT) (k : Nat) (C : Addr) (m : Str) (ps : List Str) (sp : Sp) : Prop :=
  ∃ (f : Addr) (fd : FuncData), FnG P w K mg base CX k f fd ps sp ∧ Meth K C m f ∧ Binds K fd ps []
section
variable {P : Program} {w : World} {K : PySem.W.Frag} {mg : Str → Option Value} {base : Heap} {CX : CXT} {k : Nat} {C : Addr} {m qual : Str} {ps N : List Str} {sp : DSp} {st : Stmt}
theorem Mfn.mono {sp : Sp} {j : Nat} (D : Mfn P w K mg base CX j C m ps sp) (h : j ≤ k) : Mfn P w K mg base CX k C m ps sp := by
  obtain ⟨f, fd, F, r⟩ := D
  exact ⟨f, fd, F.mono h, r⟩
theorem mfnD (h : HasM K C m qual st) (B : Bi mg) (S : FnScope N ps (defScope st)) (bd : BindsByQ m qual st ps) (len : ∀ ts ω q xx, sp ts ω q xx → ts.length = ps.length)
    (body : ∀ (f : Addr) (cv : Value) (A : Around) (out : List Env) (s : Shared) (H : Hp) (E : XK), Ct mg (A.deeper (envOfC qual (defScope st) s.heap.objs.size f cv)) k →
      ∃ td, DSs W0 (cxOf CX0 P w K mg base N qual (defScope st) f cv A out s H E).nox K (defBody st) td ∧ ∀ ts ω q xx, sp ts ω q xx → td (endsD q X0) (startD N ts) ω) :
    Mfn P w K mg base CX0 (k + 1) C m ps (spD K sp) := by
  obtain ⟨f, fd, F, mt⟩ := h
  refine ⟨f, fd, okG F S (fun vs H Q E z => ?_) ?_, mt, F.binds bd⟩
  · obtain ⟨J, ω, ts, q, xx, w, r, _, _, z⟩ := z
    rw [r.length]
    exact len _ _ _ _ z
  intro cv A out s H vs Q E room gd ask
  obtain ⟨J, ω, ts, q, xx, w, r, cq, cx, z⟩ := ask
  obtain ⟨td, ⟨t, p, kk⟩, hb⟩ := body f cv A out s H E ⟨B, room, gd⟩
  exact ⟨t, p.nox, kk _ _ _ H J ω _ w (sl_start r) ⟨fun _ _ _ _ _ z g w _ => cq _ _ _ _ _ z g w .non, fun _ _ _ _ _ z _ _ _ => False.elim z, fun _ _ _ _ _ z _ _ _ => False.elim z, cq, fun _ _ _ _ _ _ _ _ z _ _ _ _ => False.elim z⟩ (hb ts ω q xx z)⟩
theorem mfnDX (h : HasM K C m qual st) (B : Bi mg) (S : FnScope N ps (defScope st)) (bd : BindsByQ m qual st ps) (len : ∀ ts ω q xx, sp ts ω q xx → ts.length = ps.length)
    (body : ∀ (f : Addr) (cv : Value) (A : Around) (out : List Env) (s : Shared) (H : Hp) (E : XK), Ct mg (A.deeper (envOfC qual (defScope st) s.heap.objs.size f cv)) k →
      ∃ td, DSs (fun cl d _ H => E cl d H) (cxOf (L2.CX P w) P w K mg base N qual (defScope st) f cv A out s H E) K (defBody st) td ∧ ∀ ts ω q xx, sp ts ω q xx → td (endsD q xx) (startD N ts) ω) :
    Mfn P w K mg base (L2.CX P w) (k + 1) C m ps (spD K sp) := by
  obtain ⟨f, fd, F, mt⟩ := h
  refine ⟨f, fd, okG F S (fun vs H Q E z => ?_) ?_, mt, F.binds bd⟩
  · obtain ⟨J, ω, ts, q, xx, w, r, _, _, z⟩ := z
    rw [r.length]
    exact len _ _ _ _ z
  intro cv A out s H vs Q E room gd ask
  obtain ⟨J, ω, ts, q, xx, w, r, cq, cx, z⟩ := ask
  obtain ⟨td, ⟨t, p, kk⟩, hb⟩ := body f cv A out s H E ⟨B, room, gd⟩
  exact ⟨t, p, kk _ _ _ H J ω _ w (sl_start r) ⟨fun _ _ _ _ _ z g w _ => cq _ _ _ _ _ z g w .non, fun _ _ _ _ _ z _ _ _ => False.elim z, fun _ _ _ _ _ z _ _ _ => False.elim z, cq, fun C fs _ ω' d _ J' H' z g w _ x => cx C fs ω' d J' H' z g w x⟩ (hb ts ω q xx z)⟩
end
/-- what a class of the text must have -/
structure ClsD (K : PySem.W.Frag) (mg : Str → Option Value) (x : Str) (C : Addr) : Prop where
  gC : mg x = some (.ref C)
  cl : Cls K C
  mks : PySem.W.makesIn K C = true
  kp : PySem.W.keepIn K (.ref C) = true
theorem clsD_of {K : PySem.W.Frag} {mg : Str → Option Value} {h : Heap} {x : Str} {C : Addr} (X : K.In h) (G : h.Ns mainGlobals mg) (a : PySem.W.nsIn K mainGlobals x = some (some (.ref C))) (pg : PySem.W.plainGet K C Str.empty = true) (hd : PySem.W.hasDictIn K C = true)
    (po : PySem.W.plainOver K C = true) (sa : PySem.W.findIn K (.ref C) "__setattr__" = some (some (.builtin "object.__setattr__"))) (mk : PySem.W.makesIn K C = true) (kp : PySem.W.keepIn K (.ref C) = true) : ClsD K mg x C :=
  ⟨PySem.W.mg_of X G a, ⟨pg, hd, po, sa⟩, mk, kp⟩
/-- a cell that is an instance of the class at C, without a field m -/
def isIns (C : Addr) (m : Str) : MO → Prop
  | .ins C' _ fs => C' = C ∧ fs.lookup m = none
  | .ent C' _ _ f _ => C' = C ∧ (m == f) = false
  | _ => False
theorem rpf_none {K : PySem.W.Frag} {J : Hp} {f : Str} : ∀ {gs : List (Str × V)} {fs : List (Str × PyData)}, RpF K J gs fs → fs.lookup f = none → gs.lookup f = none
  | _, _, .nil, _ => rfl
  | (a, u) :: gs, (b, v) :: fs, .cons h t, e => by
    obtain ⟨h1, h2⟩ := h
    simp only at h1 h2
    subst h1
    rw [List.lookup_cons] at e ⊢
    cases q : f == a with
    | true => rw [q] at e; cases e
    | false => rw [q] at e; exact rpf_none t e
section
variable {K : PySem.W.Frag} {J H : Hp} {ω : Wd} {a C : Addr} {m : Str} {o : MO}
theorem Rw.ins (w : Rw K J H ω) (h : ω a = some o) (i : isIns C m o) : ∃ dx fs, H a = some (.ins C dx fs) ∧ fs.lookup m = none := by
  cases o with
  | ins C' dx fs =>
    obtain ⟨rfl, l⟩ := i
    obtain ⟨gs, e, r⟩ := w.cell a _ h
    exact ⟨dx, gs, e, rpf_none r l⟩
  | ent C' dx p f ds =>
    obtain ⟨rfl, l⟩ := i
    obtain ⟨e, _⟩ := w.cell a _ h
    exact ⟨dx, _, e, by rw [List.lookup_cons, l]; rfl⟩
  | _ => exact False.elim i
end
section
variable {X : Cx} {CX : CXT} {k : Nat} {f C : Addr} {fd : FuncData} {ps : List Str} {sp : Sp} {E : L2.St → XK} {x m : Str} {p pos apos : Pos} {e o : Expr} {es : List Expr} {ta : TE} {t : TA} {A : Around}
theorem run_g {pins : List (Addr × Obj)} {σ : L2.St} {H : Hp} {s : Shared} {Q : VK} {us : List Value} {vs : List V} {E : XK} (F : FnG X.prog X.w X.K X.mg X.base CX k f fd ps sp) (hr : Room k A) (gd : A.guards = some []) (hb : Binds X.K fd ps [])
    (e0 : Env0 X.prog X.w X.K X.mg X.base A X.stack s H) (hx : PassesAt CX X σ E) (I : Inv X pins σ H s) (r : Vals vs us) (h : sp vs H Q E) : wpAny (model X.prog X.w) A (call (.ref f) us) (EP X pins σ Q) X.xe s := by
  have hl : (us ++ []).length = ps.length := by rw [List.append_nil, ← r.length]; exact F.len _ _ _ _ h
  have b := hb s us I.kIn hl
  rw [List.append_nil] at b
  refine wpAny_call (codeAny_mono (F.run A X.stack s H ⟨us, []⟩ us vs Q E hr gd e0 b r h) ?_)
  intro r s2 got
  match r, got with
  | .ok (.ret u), got => exact I.after got
  | .ok .next, got => exact False.elim got
  | .ok .brk, got => exact False.elim got
  | .ok .cont, got => exact False.elim got
  | .error er, got => exact hx pins H s er s2 I got
def tMethS (C : Addr) (m : Str) (sp : Sp) (E : L2.St → XK) (ta : TE) (t : TA) : TE := fun σ H Q => ta σ H fun x H1 => ∃ a dx fs, x = .ref a ∧ H1 a = some (.ins C dx fs) ∧ fs.lookup m = none ∧ t σ H1 fun vs H2 => sp (x :: vs) H2 Q (E σ)
theorem pe_methG {pl : Sem Bool} (he : PE X o ta) (c : Cls X.K C) (M : Mfn X.prog X.w X.K X.mg X.base CX k C m ps sp) (hr : Room k X.A) (gd : X.A.guards = some []) (hx : ∀ σ, PassesAt CX X σ (E σ)) (ha : PA X (e :: es) t)
    (hst : starEach (e :: es) X.env = (false, eval e X.env) :: starEach es X.env := by rfl) (hpl : (backTo pos (starEach es X.env)).any (·.1) = false := by rfl)
    (ht : eval (.Call (.Attribute o m apos) (e :: es) [] pos) X.env = (do
      let ov ← eval o X.env
      standAt apos.atName
      let (f, first) ← holding [ov] (getMethod ov m pl)
      callWith pos f first (backTo pos (starEach (e :: es) X.env)) (backToKw pos (keywordEach [] X.env))) := by rfl) :
    PE X (.Call (.Attribute o m apos) (e :: es) [] pos) (tMethS C m sp E ta t) := by
  obtain ⟨f, fd, F, hm, hb⟩ := M
  constructor
  intro pins s σ H Q I h
  refine PySem.W.methodCall_KW (pl := pl) (thn (he.run pins s σ H _ I h) fun u s1 ⟨x, H1, I1, rx, a, dx, fs, ex, ea, l, q⟩ => ?_) ht
  subst ex
  obtain rfl : u = Value.ref a := rx
  refine getmeth_ok I1 ea c hm l ?_
  refine PySem.W.callWith_K (first := [.ref a]) (h₀ := X.base) I.ok.mod.kin hm.kp (thn (ha.run pos pins s1 σ H1 _ I1 q) fun us s2 ⟨vs, H2, I2, r, q2⟩ => ⟨I2.kIn, ?_⟩) hst hpl
  exact run_g (us := .ref a :: us) (vs := .ref a :: vs) F hr gd hb I2.env0 (hx σ) I2 (.cons rfl r) q2
theorem pe_methG0 {pl : Sem Bool} (he : PE X o ta) (c : Cls X.K C) (M : Mfn X.prog X.w X.K X.mg X.base CX k C m ps sp) (hr : Room k X.A) (gd : X.A.guards = some []) (hx : ∀ σ, PassesAt CX X σ (E σ))
    (ht : eval (.Call (.Attribute o m apos) [] [] pos) X.env = (do
      let ov ← eval o X.env
      standAt apos.atName
      let (f, first) ← holding [ov] (getMethod ov m pl)
      callWith pos f first (backTo pos (starEach [] X.env)) (backToKw pos (keywordEach [] X.env))) := by rfl) :
    PE X (.Call (.Attribute o m apos) [] [] pos) (tMethS C m sp E ta tNil) := by
  obtain ⟨f, fd, F, hm, hb⟩ := M
  constructor
  intro pins s σ H Q I h
  refine PySem.W.methodCall_KW (pl := pl) (thn (he.run pins s σ H _ I h) fun u s1 ⟨x, H1, I1, rx, a, dx, fs, ex, ea, l, q⟩ => ?_) ht
  subst ex
  obtain rfl : u = Value.ref a := rx
  refine getmeth_ok I1 ea c hm l ?_
  exact PySem.W.callWith_K0 (first := [.ref a]) I1.kIn hm.kp (run_g (us := [.ref a]) (vs := [.ref a]) F hr gd hb I1.env0 (hx σ) I1 (.cons rfl .nil) q)
def tMakeS (C : Addr) (sp : Sp) (E : L2.St → XK) (t : TA) : TE := fun σ H Q => t σ H fun vs H1 => ∀ x dx, H1 x = none → H1 dx = none → dx ≠ x →
  sp (.ref x :: vs) (upd (upd H1 dx (.own x)) x (.ins C dx [])) (fun v H2 => v = .non ∧ Q (.ref x) H2) (E σ)
theorem pe_makeG (c : ClsD X.K X.mg x C) (M : Mfn X.prog X.w X.K X.mg X.base CX k C "__init__" ps sp) (hr : Room (k + 1) X.A) (gd : X.A.guards = some []) (hg : Gl X x) (hx : ∀ σ, PassesAt CX X σ (E σ)) (ha : PA X (e :: es) t)
    (hdb : (x == ("__debug__" : Str)) = false := by decide) (he : starEach (e :: es) X.env = (false, eval e X.env) :: starEach es X.env := by rfl) (hpl : (backTo pos (starEach es X.env)).any (·.1) = false := by rfl) :
    PE X (.Call (.Name x p) (e :: es) [] pos) (tMakeS C sp E t) := by
  obtain ⟨f, fd, F, hm, hb⟩ := M
  constructor
  intro pins s0 σ H0 Q I0 h0
  refine wpAny_Call_Name_kw (ld_glob I0 hg c.gC ?_ hdb)
  refine PySem.W.callWith_K (h₀ := X.base) I0.ok.mod.kin c.kp (thn (ha.run pos pins s0 σ H0 _ I0 h0) fun us s ⟨vs, H, I, r, h⟩ => ⟨I.kIn, ?_⟩) he hpl
  have hq := h (s.heap.objs.size + 1) s.heap.objs.size (I.hok.fresh (Nat.le_succ _)) (I.hok.fresh (Nat.le_refl _)) (Nat.ne_of_lt (Nat.lt_succ_self _))
  have I2 := Inv.made (C := C) I
  have r2 : Vals (V.ref (s.heap.objs.size + 1) :: vs) (Value.ref (s.heap.objs.size + 1) :: us) := .cons rfl r
  have hl : ((Value.ref (s.heap.objs.size + 1) :: us) ++ []).length = ps.length := by
    rw [List.append_nil, ← r2.length]
    exact F.len _ _ _ _ hq
  have b := hb _ (Value.ref (s.heap.objs.size + 1) :: us) I2.kIn hl
  rw [List.append_nil] at b
  refine wpAny_call (make_map (f := f) I.kIn c.mks hm.at_ (beq_iff_eq.mp hm.fn) (codeAny_mono (F.run _ X.stack _ _ ⟨Value.ref (s.heap.objs.size + 1) :: us, []⟩ (Value.ref (s.heap.objs.size + 1) :: us) _ _ (E σ) (hr.make C us []) gd
    (I2.env0.make C us []) b r2 hq) ?_))
  intro r s' got
  match r, got with
  | .ok (.ret u), got =>
    obtain ⟨v, H', I3, rv, ev, q3⟩ := I2.after got
    subst ev
    exact ⟨rv, ⟨V.ref (s.heap.objs.size + 1), H', I3, rfl, q3⟩⟩
  | .ok .next, got => exact False.elim got
  | .ok .brk, got => exact False.elim got
  | .ok .cont, got => exact False.elim got
  | .error er, got => exact hx σ pins _ _ er s' I2 got
end
/-- o.m(..) -/
def dMeth (C : Addr) (m : Str) (sp : DSp) (to : DTE) (ta : DTA) (ρ : DS) (ω : Wd) (q : DQ) (x : DXK) : Prop := to ρ ω (fun o ω1 => ∃ a mo, o = refD a ∧ ω1 a = some mo ∧ isIns C m mo ∧ ta ρ ω1 (fun ts ω2 => sp (o :: ts) ω2 q x) x) x
/-- C(..) -/
def dMake (C : Addr) (sp : DSp) (ta : DTA) (ρ : DS) (ω : Wd) (q : DQ) (x : DXK) : Prop := ta ρ ω (fun ts ω1 => ∀ a dx, ω1 a = none → sp (refD a :: ts) (updW ω1 a (.ins C dx [])) (fun v ω2 => v = .none ∧ q (refD a) ω2) x) x
def dFld (K : PySem.W.Frag) (te : DTE) (f : Str) (ρ : DS) (ω : Wd) (q : DQ) (x : DXK) : Prop := te ρ ω (fun o ω1 => ∃ a C dx fs v, o = refD a ∧ ω1 a = some (.ins C dx fs) ∧ Cls K C ∧ NoAttr K C f ∧ fs.lookup f = some v ∧ q v ω1) x
def putD (f : Str) (v : PyData) : List (Str × PyData) → List (Str × PyData)
  | [] => [(f, v)]
  | (g, u) :: r => if g = f then (g, v) :: r else (g, u) :: putD f v r
def dSetF (K : PySem.W.Frag) (to te : DTE) (f : Str) (D : DEnds) (ρ : DS) (ω : Wd) : Prop := te ρ ω (fun v ω1 => to ρ ω1 (fun o ω2 => ∃ a C dx fs, o = refD a ∧ ω2 a = some (.ins C dx fs) ∧ Cls K C ∧ NoAttr K C f ∧ fs.length < 1000 ∧ D.nx ρ (updW ω2 a (.ins C dx (putD f v fs)))) (xcOf D ρ)) (xcOf D ρ)
theorem rpf_put {K : PySem.W.Frag} {J : Hp} {f : Str} {u : V} {v : PyData} (h : Rp K J u v) : ∀ {gs : List (Str × V)} {fs : List (Str × PyData)}, RpF K J gs fs → RpF K J (putF f u gs) (putD f v fs)
  | _, _, .nil => .cons ⟨rfl, h⟩ .nil
  | (a, u') :: gs, (b, v') :: fs, .cons g t => by
    obtain ⟨h1, h2⟩ := g
    simp only at h1 h2
    subst h1
    unfold putF putD
    by_cases q : a = f
    · rw [if_pos q, if_pos q]; exact .cons ⟨rfl, h⟩ t
    · rw [if_neg q, if_neg q]; exact .cons ⟨rfl, h2⟩ (rpf_put h t)
theorem RpF.length {K : PySem.W.Frag} {J : Hp} : ∀ {gs : List (Str × V)} {fs : List (Str × PyData)}, RpF K J gs fs → gs.length = fs.length
  | _, _, .nil => rfl
  | _, _, .cons _ t => by rw [List.length_cons, List.length_cons, RpF.length t]
section
variable {W : WX} {X : Cx} {K : PySem.W.Frag} {j k : Nat} {ps : List Str} {sp : DSp} {x m f : Str} {C : Addr} {p pos apos pos' : Pos} {e o : Expr} {es : List Expr} {to te : DTE} {tA : DTA} {CX : CXT}
/-- no exception, or one that is wished for -/
def PX (CX : CXT) (X : Cx) (W : WX) : Prop := ∀ σ, PassesAt CX X σ (fun cl d H => W cl d σ H)
theorem px0 : PX CX0 X W := fun _ _ _ _ _ _ _ h => False.elim h
theorem pxX (tk : Takes X W) : PX (L2.CX X.prog X.w) X W := fun σ => passAt tk σ
theorem de_meth {pl : Sem Bool} (hK : X.K = K) (M : Mfn X.prog X.w X.K X.mg X.base CX j C m ps (spD K sp)) (cl : Cls K C) (c : Ct X.mg X.A k) (h : j ≤ k) (px : PX CX X W) (ho : DE W X K o to) (args : DAs W X K (e :: es) tA)
    (hst : starEach (e :: es) X.env = (false, eval e X.env) :: starEach es X.env := by rfl) (hpl : (backTo pos (starEach es X.env)).any (·.1) = false := by rfl)
    (ht : eval (.Call (.Attribute o m apos) (e :: es) [] pos) X.env = (do
      let ov ← eval o X.env
      standAt apos.atName
      let (f, first) ← holding [ov] (getMethod ov m pl)
      callWith pos f first (backTo pos (starEach (e :: es) X.env)) (backToKw pos (keywordEach [] X.env))) := by rfl) :
    DE W X K (.Call (.Attribute o m apos) (e :: es) [] pos) (dMeth C m sp to tA) := by
  subst hK
  obtain ⟨ro, po, ko⟩ := ho
  obtain ⟨t, pp, kk⟩ := args
  refine ⟨_, pe_methG (E := fun σ cl d H => W cl d σ H) po cl M (c.r.mono h) c.g px pp hst hpl ht, fun σ H J ω ρ q x Q w s cq cx z => ko σ H J ω ρ _ x _ w s (fun r ω1 v J1 H1 z1 g1 w1 rp => ?_) cx z⟩
  obtain ⟨a, mo, rfl, e1, i, z1⟩ := z1
  obtain rfl := rp_ref rp
  obtain ⟨dx, fs, e2, l⟩ := w1.ins e1 i
  refine ⟨a, dx, fs, rfl, e2, l, kk σ H1 J1 ω1 ρ _ x _ w1 (s.mono g1.jj) (fun ts ω2 vs J2 H2 z2 g2 w2 rps => ?_) (cx.step g1) z1⟩
  exact ⟨J2, ω2, _, q, x, w2, .cons (.ref a) rps, (cq.step g1).step g2, (cx.step g1).step g2, z2⟩
theorem de_meth0 {pl : Sem Bool} (hK : X.K = K) (M : Mfn X.prog X.w X.K X.mg X.base CX j C m ps (spD K sp)) (cl : Cls K C) (c : Ct X.mg X.A k) (h : j ≤ k) (px : PX CX X W) (ho : DE W X K o to)
    (ht : eval (.Call (.Attribute o m apos) [] [] pos) X.env = (do
      let ov ← eval o X.env
      standAt apos.atName
      let (f, first) ← holding [ov] (getMethod ov m pl)
      callWith pos f first (backTo pos (starEach [] X.env)) (backToKw pos (keywordEach [] X.env))) := by rfl) :
    DE W X K (.Call (.Attribute o m apos) [] [] pos) (dMeth C m sp to dNil) := by
  subst hK
  obtain ⟨ro, po, ko⟩ := ho
  refine ⟨_, pe_methG0 (E := fun σ cl d H => W cl d σ H) po cl M (c.r.mono h) c.g px ht, fun σ H J ω ρ q x Q w s cq cx z => ko σ H J ω ρ _ x _ w s (fun r ω1 v J1 H1 z1 g1 w1 rp => ?_) cx z⟩
  obtain ⟨a, mo, rfl, e1, i, z1⟩ := z1
  obtain rfl := rp_ref rp
  obtain ⟨dx, fs, e2, l⟩ := w1.ins e1 i
  exact ⟨a, dx, fs, rfl, e2, l, J1, ω1, _, q, x, w1, .cons (.ref a) .nil, cq.step g1, cx.step g1, z1⟩
theorem de_make (hK : X.K = K) (cl : ClsD K X.mg x C) (M : Mfn X.prog X.w X.K X.mg X.base CX j C "__init__" ps (spD K sp)) (c : Ct X.mg X.A k) (h : j + 1 ≤ k) (gl : Gl X x) (px : PX CX X W) (args : DAs W X K (e :: es) tA)
    (hdb : (x == ("__debug__" : Str)) = false := by decide) (he : starEach (e :: es) X.env = (false, eval e X.env) :: starEach es X.env := by rfl) (hpl : (backTo pos (starEach es X.env)).any (·.1) = false := by rfl) :
    DE W X K (.Call (.Name x p) (e :: es) [] pos) (dMake C sp tA) := by
  subst hK
  obtain ⟨t, pp, kk⟩ := args
  refine ⟨_, pe_makeG (E := fun σ cl d H => W cl d σ H) cl M (c.r.mono h) c.g gl px pp hdb he hpl, fun σ H J ω ρ q x Q w s cq cx z => kk σ H J ω ρ _ x _ w s (fun ts ω1 vs J1 H1 z1 g1 w1 rps => ?_) cx z⟩
  intro a dx ha hd ne
  have w2 := w1.junk hd (.own a)
  have ha2 : upd H1 dx (.own a) a = none := by rw [upd_ne (Ne.symm ne)]; exact ha
  have w3 := w2.own (m := .ins C dx []) (o := .ins C dx []) rfl ha2 ⟨[], upd_same, .nil⟩
  have g3 : Grow J H ω J1 (upd (upd H1 dx (.own a)) a (.ins C dx [])) (updW ω1 a (.ins C dx [])) := (g1.trans (Grow.junk hd _)).trans (Grow.own rfl ha2 _)
  refine ⟨J1, _, _, _, x, w3, .cons (.ref a) rps, fun r ω' v J' H' z' g' w' rp => ?_, cx.step g3, z1 a dx (w1.free ha).1⟩
  obtain ⟨rfl, z'⟩ := z'
  cases rp
  exact ⟨rfl, (cq.step g3) _ _ _ _ _ z' g' w' (.ref a)⟩
theorem de_fld (hK : X.K = K) (he : DE W X K e te) (hb : attributeBase e f X.env (eval e X.env) = eval e X.env := by rfl) : DE W X K (.Attribute e f pos) (dFld K te f) := by
  subst hK
  obtain ⟨ro, po, ko⟩ := he
  refine ⟨_, pe_fld po hb, fun σ H J ω ρ q x Q w s cq cx z => ko σ H J ω ρ _ x _ w s (fun r ω1 v J1 H1 z1 g1 w1 rp => ?_) cx z⟩
  obtain ⟨a, C, dx, fs, v, rfl, e1, cl, na, l, z1⟩ := z1
  obtain rfl := rp_ref rp
  obtain ⟨gs, e2, r2⟩ := w1.cell a _ e1
  obtain ⟨u, l2, r3⟩ := rpf_lookup r2 l
  exact ⟨a, C, dx, gs, u, rfl, e2, cl, na, l2, cq _ _ _ _ _ z1 g1 w1 r3⟩
theorem ds_fld (hK : X.K = K) (ho : DE W X K o to) (he : DE W X K e te) (hs : swapsWith e (some (.Attribute o f pos')) pos.line X.env = pure false := by rfl) : DSt W X K (.Assign [.Attribute o f pos'] e pos) (dSetF K to te f) := by
  subst hK
  obtain ⟨ro, po, ko⟩ := ho
  obtain ⟨re, pe, ke⟩ := he
  refine ⟨_, ps_fld po pe hs, fun D DD σ H J ω ρ w s cs z => ke σ H J ω ρ _ _ _ w s (fun r ω1 v J1 H1 z1 g1 w1 rp => ?_) (cs.x s) z⟩
  refine ko σ H1 J1 ω1 ρ _ _ _ w1 (s.mono g1.jj) (fun r2 ω2 v2 J2 H2 z2 g2 w2 rp2 => ?_) ((cs.x s).step g1) z1
  obtain ⟨a, C, dx, fs, rfl, e1, cl, na, l, z2⟩ := z2
  obtain rfl := rp_ref rp2
  obtain ⟨gs, e2, r2⟩ := w2.cell a _ e1
  refine ⟨a, C, dx, gs, rfl, e2, cl, na, by rw [r2.length]; exact l, cs.nx _ _ _ _ _ z2 ((g1.trans g2).trans (Grow.set e1 rfl _)) (w2.set e1 rfl ⟨_, upd_same, rpf_put (rp_mono g2.jj _ _ rp) r2⟩) (s.mono (g1.trans g2).jj)⟩
end
end Tx

namespace Tx
open PySem PySem.Spec PyProof.Rows L2
/-! ## Operators of a class of the text -/
section
variable {prog : Program} {w : World} {A : Around} {E : Value → Shared → Prop} {s : Shared} {K : PySem.W.Frag} {x C f : Addr} {ox : Obj} {od : Option Obj} {b tb : Value}
theorem slot_one (X : K.In s.heap) (I : PySem.W.InstAt s.heap x ox C od) (oC : PySem.W.subIn K (.ref C) (.type "object") = some true) {Q : Unit → Shared → Prop} (h : Q () s) : wpAny (model prog w) A (checkBuiltinCall "object.__ne__" ⟨[.ref x, b], []⟩) Q E s := by
  simp only [checkBuiltinCall, F.cmpKind_ne, F.cmpSplit_ne]
  refine wpAny_bind ?_
  unfold isInstance
  refine wpAny_bind (I.type.here ((PySem.W.looks_subIn X oC).here ?_))
  have ha := F.cmpArgs_ne (.ref x) b
  unfold argsOk at ha
  cases q : Manifest.signature? "object.__ne__" with
  | none => exact wpAny_pure h
  | some sg =>
    rw [q] at ha
    show wpAny _ _ (Bind.checkArgs "object.__ne__" sg ⟨[.ref x, b], []⟩) _ _ _
    rw [show Bind.checkArgs "object.__ne__" sg ⟨[.ref x, b], []⟩ = pure () from ha]
    exact wpAny_pure h
/-- a != b where the class has an own __eq__ and no own __ne__ -/
theorem ne_own {Q : Value → Shared → Prop} (hu : A.units + 1 < cLine) (X : K.In s.heap) (I : PySem.W.InstAt s.heap x ox C od) (hb : PySem.W.Looks (model prog w) s.heap (typeOf b) tb) (hn : PySem.W.notFirst K C tb = true)
    (ne : PySem.W.findIn K (.ref C) "__ne__" = some (some (.builtin "object.__ne__"))) (eq : PySem.W.findIn K (.ref C) "__eq__" = some (some (.ref f))) (hf : PySem.W.isFn K (.ref f) = true) (oC : PySem.W.subIn K (.ref C) (.type "object") = some true)
    (h : wpAny (model prog w) A.in1 (call (.ref f) [.ref x, b]) (fun v s' => ∃ r, v = .bool r ∧ Q (.bool (!r)) s') E s) : wpAny (model prog w) A (richCompare .NotEq (.ref x) b) Q E s := by
  have entry : wpAny (model prog w) A (call (.builtin "object.__ne__") ([.ref x] ++ [b])) (fun v s' => ∃ r, v = .bool r ∧ Q v s') E s := by
    refine wpAny_call (codeAny_call_builtin (by decide +kernel) F.cmpEntry_ne (slot_one X I oC ?_))
    unfold Builtin.«object.__ne__»
    refine wpAny_bind (m := slotArgs _ _ _) (wpAny_pure ?_)
    refine wpAny_bind (wpAny_cRoomFor hu ?_)
    refine wpAny_bind (PySem.W.ifBound_K X I eq hf (wpAny_mono h (fun v s1 ⟨r, e, q⟩ => ?_) fun _ _ z => z))
    subst e
    refine wpAny_bind (wpAny_truthy_bool ?_)
    exact wpAny_pure ⟨_, rfl, q⟩
  have cs : wpAny (model prog w) A (callSpecialIfBound? (.ref x) (cmpInfo .NotEq).2.1 [b]) (fun r s' => ∃ v, r = some (.bool v) ∧ Q (.bool v) s') E s := by
    unfold callSpecialIfBound? bindSpecialIfBound?
    refine wpAny_holding (wpAny_bind (wpAny_bind (wpAny_bind (I.type.here ((PySem.W.looks_findIn X ne).here ?_)))))
    refine wpAny_bind (wpAny_askSetting (wpAny_ite ?_))
    have bd : bindSpecial (.builtin "object.__ne__") (.ref x) = pure (.builtin "object.__ne__", [.ref x]) := rfl
    simp only [bd]
    have fin : wpAny (model prog w) A (call (.builtin "object.__ne__") ([.ref x] ++ [b]) >>= fun v => pure (some v)) (fun r s' => ∃ v, r = some (.bool v) ∧ Q (.bool v) s') E s := by
      refine wpAny_bind (wpAny_mono entry (fun v s1 ⟨r, e, q⟩ => ?_) fun _ _ z => z)
      subst e
      exact wpAny_pure ⟨_, rfl, q⟩
    split
    · exact wpAny_bind (wpAny_pure (wpAny_pure (by exact fin)))
    · exact wpAny_tryCatch (wpAny_bind (wpAny_pure (wpAny_pure (by exact fin))))
  have one : wpAny (model prog w) A (tryCompare (.ref x) (cmpInfo .NotEq).2.1 b) (fun r s' => ∃ v, r = some v ∧ Q v s') E s := by
    unfold tryCompare
    refine wpAny_bind (wpAny_mono cs (fun r s1 ⟨v, e, q⟩ => ?_) fun _ _ z => z)
    subst e
    exact wpAny_pure ⟨_, rfl, q⟩
  unfold richCompare
  simp only [oneThing_ref]
  refine wpAny_holding (wpAny_bind (wpAny_cRoomFor (by omega) ?_))
  refine wpAny_bind (I.type.here (wpAny_bind (hb.here ?_)))
  have last : wpAny (model prog w) A (tryCompare (.ref x) (cmpInfo .NotEq).2.1 b) (fun r s' => ∃ v, r = some v ∧ Q v s') E s := one
  split
  · rename_i q
    have e : PySem.W.subIn K tb (.ref C) = some false := by
      rcases Bool.or_eq_true_iff.mp hn with e | e
      · rw [beq_iff_eq.mp e] at q; simp at q
      · exact beq_iff_eq.mp e
    refine wpAny_bind ((PySem.W.looks_subIn X e).here ?_)
    simp only [Bool.false_eq_true, if_false]
    refine wpAny_bind (wpAny_mono last (fun r s1 ⟨v, e, hq⟩ => ?_) fun _ _ e => e)
    subst e
    exact wpAny_pure hq
  · refine wpAny_bind (wpAny_pure ?_)
    simp only [Bool.false_eq_true, if_false]
    refine wpAny_bind (wpAny_mono last (fun r s1 ⟨v, e, hq⟩ => ?_) fun _ _ e => e)
    subst e
    exact wpAny_pure hq
end
end Tx

namespace Tx
open PySem PySem.Spec PyProof.Rows L2
section
variable {prog : Program} {w : World} {A : Around} {E : Value → Shared → Prop} {s : Shared} {K : PySem.W.Frag} {x C f : Addr} {ox : Obj} {od : Option Obj} {b tb : Value}
theorem is_type_bool : isType (.type "bool") = pure true := by first | rfl | kernel_rfl | (unfold isType; rw [isSubtype_type]; kernel_rfl)
/-- bool(x), by an own __bool__ -/
theorem bool_own {Q : Value → Shared → Prop} (X : K.In s.heap) (I : PySem.W.InstAt s.heap x ox C od) (at_ : PySem.W.findIn K (.ref C) "__bool__" = some (some (.ref f))) (fn : PySem.W.isFn K (.ref f) = true)
    (h : wpAny (model prog w) A.in1.in1 (call (.ref f) [.ref x]) (fun r s1 => ∃ c, r = Value.bool c ∧ Q r s1) E s) : wpAny (model prog w) A (call (.type "bool") [.ref x]) Q E s := by
  refine callType_codes (Bi := Builtin.«object.__init__») (Q₁ := fun r s1 => ∃ c, r = Value.bool c ∧ Q r s1) F.called_bool (F.typeCall_bool_1 _) F.entry_object_init ?made ?next
  case next =>
    rintro v s1 ⟨c, rfl, q⟩
    exact ⟨rfl, F.args_object_init_2 _ _, object_init_meets F.called_bool.init.lookup F.called_bool.made (by decide) prog w A.in1 _ s1 ⟨rfl, rfl, q⟩⟩
  case made =>
    apply codeAny_of_tree
    show wpAny _ A.in1.in1 (checkBuiltinCall "bool.__new__" ⟨[.type "bool", .ref x], []⟩ >>= fun _ => again (.builtin "bool.__new__" ⟨[.type "bool", .ref x], []⟩)) _ _ s
    refine wpAny_bind (wpAny_of_eq (F.newCall_bool_1 _) (wpAny_pure ⟨plainId_quiet (by decide +kernel) _, codeAny_builtin F.entry_bool_new ?_⟩))
    rw [Around.under_plainId (by decide +kernel) _]
    unfold Builtin.«bool.__new__»
    refine wpAny_bind (wpAny_of_eq is_type_bool ?_)
    refine PySem.W.KFB.if_not rfl (wpAny_bind (wpAny_of_eq F.conv_sub_bool (PySem.W.KFB.if_not rfl ?_)))
    refine wpAny_bind (m := someArgs _ _ _ _) (wpAny_pure ?_)
    unfold truthy
    refine wpAny_bind (wpAny_bind (m := callSpecial? (.ref x) (Str.ofString "__bool__")) (PySem.W.special_fn X I at_ (beq_iff_eq.mp fn) (wpAny_mono h (fun v s1 ⟨c, e, q⟩ => ?_) fun _ _ z => z)))
    subst e
    exact wpAny_pure (wpAny_pure ⟨_, rfl, q⟩)
/-- what the fragment says of a built-in type that stands on the right of an operator -/
structure RightT (K : PySem.W.Frag) (C : Addr) (nm T : String) : Prop where
  op : ∃ o, PySem.W.findIn K (.type T) (PySem.dunder nm) = some o
  rop : ∃ o, PySem.W.findIn K (.type T) (dunderR nm) = some o
  sub : PySem.W.subIn K (.type T) (.ref C) = some false
structure OwnBin (K : PySem.W.Frag) (C : Addr) (nm : String) : Prop where
  first : PySem.W.selfFirst K C = true
  rop : ∃ o, PySem.W.findIn K (.ref C) (dunderR nm) = some o ∧ (o = none ∨ ∃ g : Addr, o = some (.ref g))
theorem bin_own {op : Operator} {T : String} {Q : Value → Shared → Prop} (X : K.In s.heap) (I : PySem.W.InstAt s.heap x ox C od) (ty : PySem.W.Looks (model prog w) s.heap (typeOf b) (.type T)) (O : OwnBin K C op.info.2) (R : RightT K C op.info.2 T)
    (at_ : PySem.W.findIn K (.ref C) (PySem.dunder op.info.2) = some (some (.ref f))) (fn : PySem.W.isFn K (.ref f) = true)
    (h : wpAny (model prog w) A (call (.ref f) [.ref x, b]) (PySem.W.CmpBack Q) E s) : wpAny (model prog w) A (binaryOp op (.ref x) b) Q E s := by
  obtain ⟨cd, rest, h1, h2⟩ := PySem.W.ksp_first O.first
  obtain ⟨⟨o1, r1⟩, ⟨o2, r2⟩, sub⟩ := R
  obtain ⟨o3, r3, r4⟩ := O.rop
  have go := PySem.W.ksp_try X I at_ fn h
  have k1 : PySem.W.Looks (model prog w) s.heap (fillsNumberSlot (.ref C) op.info.2) true := PySem.W.fills_K X h1 h2 at_
  have k2 := PySem.W.ksp_fillsT (M := model prog w) X r1 r2
  have k3 : PySem.W.Looks (model prog w) s.heap (isSubtype (.type T) (.ref C)) false := PySem.W.looks_subIn X sub
  have k4 : PySem.W.Looks (model prog w) s.heap (numberSlotInPython (.ref C) op.info.2) true := PySem.W.ksp_inPy X at_ r3 r4
  have k5 : PySem.W.Looks (model prog w) s.heap (numberSlotInPython (.type T) op.info.2) false := PySem.W.Looks.of_pure rfl
  have k6 : PySem.W.Looks (model prog w) s.heap (typeLookup (.type T) (dunderR op.info.2)) o2 := PySem.W.looks_findIn X r2
  have k7 : PySem.W.Looks (model prog w) s.heap (typeOf (.ref x)) (.ref C) := I.type
  generalize ((o1.isSome && !isSeqSlot o1) || (o2.isSome && !isSeqSlot o2)) = rt at k2
  have no : (Value.ref C == Value.type T) = false := Bool.eq_false_iff.mpr fun z => by cases beq_iff_eq.mp z
  clear h at_ r1 r2 r3 O
  obtain ⟨sy, nm, hi⟩ : ∃ sy nm, op.info = (sy, nm) := ⟨_, _, rfl⟩
  rw [hi] at go k1 k2 k4 k5 k6
  dsimp only at go k1 k2 k4 k5 k6
  obtain ⟨hp, g, d, tt, os⟩ := s
  simp only [binaryOp, hi]
  refine wpAny_holding (wpAny_bind ?_)
  unfold binaryOp1
  refine wpAny_bind (k7.at (wpAny_bind (ty.at (wpAny_bind (k1.at ?_)))))
  simp only [no, Bool.false_eq_true, if_false]
  cases rt <;>
  · ksp_lk
    refine wpAny_mono go (fun r s1 ⟨v, e, q⟩ => ?_) fun _ _ z => z
    subst e
    ksp_lk
    exact q
end
end Tx

namespace Tx
open PySem PySem.Spec PyProof.Rows L2
/-! ## Operators of a class over data -/
abbrev RM2 := PyData → PyData → Wd → DQ → Prop
abbrev RM1 := List PyData → Wd → DQ → Prop
def lift2M (K : PySem.W.Frag) (rd : RM2) : R2 := fun x y H Q => ∃ J ω dx dy q, Rw K J H ω ∧ Rp K J x dx ∧ Rp K J y dy ∧ CovQ K J H ω q Q ∧ rd dx dy ω q
def liftAM (K : PySem.W.Frag) (rd : RM1) : List V → Hp → VK → Prop := fun xs H Q => ∃ J ω ds q, Rw K J H ω ∧ RpAll K J xs ds ∧ CovQ K J H ω q Q ∧ rd ds ω q
def CovW (K : PySem.W.Frag) (J H : Hp) (ω : Wd) (q : Wd → Prop) (Q : Hp → Prop) : Prop := ∀ ω' J' H', q ω' → Grow J H ω J' H' ω' → Rw K J' H' ω' → Q H'
abbrev RMS := PyData → PyData → PyData → Wd → (Wd → Prop) → Prop
def liftSt (K : PySem.W.Frag) (rd : RMS) : TSet := fun o i v H Q => ∃ J ω dO dI dV q, Rw K J H ω ∧ Rp K J o dO ∧ Rp K J i dI ∧ Rp K J v dV ∧ CovW K J H ω q Q ∧ rd dO dI dV ω q
/-- the built-in type of data -/
def tyR (ω : Wd) (d : PyData) : Option String := match rsv ω d with
  | .none => some "NoneType"
  | .bool _ => some "bool"
  | .int _ => some "int"
  | .str _ => some "str"
  | .list _ => some "list"
  | _ => none
/-- an instance of the class at C -/
def InsD (C : Addr) (m : Str) (ω : Wd) (d : PyData) : Prop := ∃ a mo, d = refD a ∧ ω a = some mo ∧ isIns C m mo
/-- self.m(..) by an operator -/
def rmOwn (C : Addr) (m : Str) (ok : Wd → PyData → Prop) (sp : DSp) : RM2 := fun dx dy ω q => InsD C m ω dx ∧ ok ω dy ∧ sp [dx, dy] ω q X0
def RgtOk (K : PySem.W.Frag) (C : Addr) (nm : String) (ω : Wd) (d : PyData) : Prop := (∃ T, tyR ω d = some T ∧ RightT K C nm T) ∨ ∃ m, InsD C m ω d
def rmNe (C : Addr) (sp : DSp) : RM2 := fun dx dy ω q => InsD C "__eq__" ω dx ∧ (∃ m, InsD C m ω dy) ∧ sp [dx, dy] ω (fun r ω1 => ∃ b, r = .bool b ∧ q (.bool (!b)) ω1) X0
def rmEq (C : Addr) (sp : DSp) : RM2 := fun dx dy ω q => InsD C "__eq__" ω dx ∧ (∃ m, InsD C m ω dy) ∧ sp [dx, dy] ω q X0
def rmLen (C : Addr) (sp : DSp) : RM1 := fun ds ω q => ∃ d, ds = [d] ∧ InsD C "__len__" ω d ∧ sp [d] ω (fun r ω1 => ∃ n : Int, r = .int n ∧ 0 ≤ n ∧ n < 2 ^ 63 ∧ q r ω1) X0
def rmBool (C : Addr) (sp : DSp) : RM1 := fun ds ω q => ∃ d, ds = [d] ∧ InsD C "__bool__" ω d ∧ sp [d] ω (fun r ω1 => ∃ b, r = .bool b ∧ q r ω1) X0
def rsOwn (C : Addr) (sp : DSp) : RMS := fun dO dI dV ω q => InsD C "__setitem__" ω dO ∧ sp [dO, dI, dV] ω (fun _ ω1 => q ω1) X0
def rsList : RMS := fun dO dI dV ω q => ∃ (a : Addr) (xs : List PyData) (k : Int) (j : Nat), dO = refD a ∧ dI = .int k ∧ ω a = some (.lst xs) ∧ ixN xs.length k = some j ∧ q (updW ω a (.lst (xs.set j dV)))
section
variable {X : Cx} {K : PySem.W.Frag} {pins : List (Addr × Obj)} {σ : L2.St} {J H : Hp} {ω : Wd} {s : Shared} {a C dx : Addr} {fs : List (Str × V)} {v : V} {u : Value} {d : PyData} {m : Str} {j k : Nat} {ps : List Str} {sp : DSp} {A : Around}
theorem inst_at (I : L2.Inv X pins σ H s) (e : H a = some (.ins C dx fs)) : ∃ od, PySem.W.InstAt s.heap a (PySem.W.instObj C dx) C (some od) := by
  obtain ⟨mA, O, _⟩ := ins_get I.hok e
  obtain ⟨od, J, _⟩ := O.look
  exact ⟨od, J⟩
theorem insD_at (w : Rw K J H ω) (I : L2.Inv X pins σ H s) (r : Rp K J v d) (rv : RelV v u) (i : InsD C m ω d) : ∃ a dx od, v = .ref a ∧ u = .ref a ∧ PySem.W.InstAt s.heap a (PySem.W.instObj C dx) C (some od) := by
  obtain ⟨a, mo, rfl, e, i⟩ := i
  obtain rfl := rp_ref r
  obtain ⟨dx, fs, e2, _⟩ := w.ins e i
  obtain ⟨od, J⟩ := inst_at I e2
  exact ⟨a, dx, od, rfl, rv, J⟩
theorem looks_ty {M : Model} {T : String} (w : Rw K J H ω) (I : L2.Inv X pins σ H s) (r : Rp K J v d) (rv : RelV v u) (t : tyR ω d = some T) : PySem.W.Looks M s.heap (typeOf u) (.type T) := by
  unfold tyR at t
  cases e : rsv ω d with
  | none => rw [e] at t; cases t; rw [(rp_flat r).2.2.2 e] at rv; cases (show u = Value.none from rv); exact PySem.W.Looks.of_pure rfl
  | bool b => rw [e] at t; cases t; rw [(rp_flat r).2.2.1 b e] at rv; cases (show u = Value.bool b from rv); exact PySem.W.Looks.of_pure rfl
  | int i => rw [e] at t; cases t; rw [(rp_flat r).2.1 i e] at rv; obtain ⟨tk, rfl⟩ := (show ∃ t, u = Value.int i t from rv); exact PySem.W.Looks.of_pure rfl
  | str z => rw [e] at t; cases t; rw [(rp_flat r).1 z e] at rv; obtain ⟨tk, rfl⟩ := (show ∃ t, u = Value.str z t from rv); exact PySem.W.Looks.of_pure rfl
  | list xs =>
    rw [e] at t
    cases t
    obtain ⟨a, vs, rfl, ha, _⟩ := rp_list w r e
    cases (show u = Value.ref a from rv)
    obtain ⟨its, n, _, ho, _⟩ := I.lst ha
    exact (PySem.W.Looks.ld ho).andThen .now
  | tuple _ => rw [e] at t; cases t
  | dict _ => rw [e] at t; cases t
/-- the method runs -/
theorem own_run {f : Addr} {fd : FuncData} {us : List Value} {vs : List V} {ts : List PyData} {q : DQ} {Q : VK} (F : FnG X.prog X.w X.K X.mg X.base CX0 j f fd ps (spD K sp)) (hb : L2.Binds X.K fd ps []) (hr : Room j A) (gd : A.guards = some [])
    (e0 : Env0 X.prog X.w X.K X.mg X.base A X.stack s H) (I : L2.Inv X pins σ H s) (rel : Vals vs us) (w : Rw K J H ω) (rs : RpAll K J vs ts) (cq : CovQ K J H ω q Q) (z : sp ts ω q X0) : wpAny (model X.prog X.w) A (call (.ref f) us) (EP X pins σ Q) X.xe s :=
  run_g (E := fun _ _ _ => False) F hr gd hb e0 (fun _ _ _ _ _ _ h => False.elim h) I rel ⟨J, ω, ts, q, X0, w, rs, cq, (fun _ _ _ _ _ _ z => False.elim z), z⟩
theorem dm_bin {op : Operator} (hK : X.K = K) (M : Mfn X.prog X.w X.K X.mg X.base CX0 j C m ps (spD K sp)) (c : Ct X.mg X.A k) (h : j ≤ k) (O : OwnBin K C op.info.2) (hn : PySem.dunder op.info.2 = m := by rfl) : OpR X (binaryOp op) (lift2M K (rmOwn C m (RgtOk K C op.info.2) sp)) := by
  subst hK hn
  obtain ⟨f, fd, F, hm, hb⟩ := M
  intro pins s σ H x y v u Q I rx ry ⟨J, ω, dx, dy, q, w, r1, r2, cq, i1, i2, z⟩
  obtain ⟨a, d1, od, rfl, rfl, J1⟩ := insD_at w I r1 rx i1
  have run := own_run F hb (c.r.mono h) c.g I.env0 I (.cons rx (.cons ry .nil)) w (.cons r1 (.cons r2 .nil)) cq z
  have back : wpAny (model X.prog X.w) X.A (call (.ref f) [.ref a, u]) (PySem.W.CmpBack (EP X pins σ Q)) X.xe s := thn run fun v' s' ⟨z', H', I', rz, qz⟩ => SlX.cmpback rz ⟨z', H', I', rz, qz⟩
  rcases i2 with ⟨T, t, R⟩ | ⟨m, i2⟩
  · exact bin_own I.kIn J1 (looks_ty w I r2 ry t) O R hm.at_ hm.fn back
  · obtain ⟨b, d2, od2, rfl, rfl, J2⟩ := insD_at w I r2 ry i2
    obtain ⟨mm, hF⟩ := I.fr
    exact PySem.W.binop_K hF I.ok.mod.kin J1 J2.type O.first hm.at_ hm.fn back
theorem dm_inp {op : Operator} (hK : X.K = K) (M : Mfn X.prog X.w X.K X.mg X.base CX0 j C m ps (spD K sp)) (c : Ct X.mg X.A k) (h : j ≤ k) (O : PySem.W.selfFirst K C = true) (hn : dunderI op.info.2 = m := by rfl) : PIp X op (lift2M K (rmOwn C m (fun _ _ => True) sp)) := by
  subst hK hn
  obtain ⟨f, fd, F, hm, hb⟩ := M
  intro pins s σ H x y v u Q I rx ry ⟨J, ω, dx, dy, q, w, r1, r2, cq, i1, i2, z⟩
  obtain ⟨a, d1, od, rfl, rfl, J1⟩ := insD_at w I r1 rx i1
  have run := own_run F hb (c.r.mono h) c.g I.env0 I (.cons rx (.cons ry .nil)) w (.cons r1 (.cons r2 .nil)) cq z
  obtain ⟨mm, hF⟩ := I.fr
  exact PySem.W.ksp_inplace hF I.ok.mod.kin J1 O hm.at_ hm.fn (thn run fun v' s' ⟨z', H', I', rz, qz⟩ => SlX.cmpback rz ⟨z', H', I', rz, qz⟩)
theorem first_self : PySem.W.notFirst K C (.ref C) = true := by simp [PySem.W.notFirst]
theorem dm_eq (hK : X.K = K) (M : Mfn X.prog X.w X.K X.mg X.base CX0 j C "__eq__" ps (spD K sp)) (c : Ct X.mg X.A k) (h : j ≤ k) : OpR X (compareOp .Eq) (lift2M K (rmEq C sp)) := by
  subst hK
  obtain ⟨f, fd, F, hm, hb⟩ := M
  intro pins s σ H x y v u Q I rx ry ⟨J, ω, dx, dy, q, w, r1, r2, cq, i1, ⟨m2, i2⟩, z⟩
  obtain ⟨a, d1, od, rfl, rfl, J1⟩ := insD_at w I r1 rx i1
  have run := own_run F hb (c.r.mono h) c.g I.env0 I (.cons rx (.cons ry .nil)) w (.cons r1 (.cons r2 .nil)) cq z
  obtain ⟨b, d2, od2, rfl, rfl, J2⟩ := insD_at w I r2 ry i2
  obtain ⟨mm, hF⟩ := I.fr
  exact PySem.W.cmp_K (op := .Eq) c.r.units0 hF I.ok.mod.kin J1 J2.type first_self hm.at_ hm.fn (thn run fun v' s' ⟨z', H', I', rz, qz⟩ => SlX.cmpback rz ⟨z', H', I', rz, qz⟩)
theorem dm_ne (hK : X.K = K) (M : Mfn X.prog X.w X.K X.mg X.base CX0 j C "__eq__" ps (spD K sp)) (c : Ct X.mg X.A k) (h : j + 1 ≤ k) (ne : PySem.W.findIn K (.ref C) "__ne__" = some (some (.builtin "object.__ne__"))) (oC : PySem.W.subIn K (.ref C) (.type "object") = some true) :
    OpR X (compareOp .NotEq) (lift2M K (rmNe C sp)) := by
  subst hK
  obtain ⟨f, fd, F, hm, hb⟩ := M
  intro pins s σ H x y v u Q I rx ry ⟨J, ω, dx, dy, q, w, r1, r2, cq, i1, ⟨m2, i2⟩, z⟩
  obtain ⟨a, d1, od, rfl, rfl, J1⟩ := insD_at w I r1 rx i1
  have cq2 : CovQ X.K J H ω (fun r ω1 => ∃ b, r = .bool b ∧ q (.bool (!b)) ω1) (fun v' H' => ∃ b, v' = .bl b ∧ Q (.bl (!b)) H') := fun r ω' v' J' H' ⟨b, e, z⟩ g w' rp => by
    subst e
    cases rp
    exact ⟨b, rfl, cq _ _ _ _ _ z g w' (.bl _)⟩
  have run := own_run F hb (c.r.mono h).in1 c.g I.env0.in1 I (.cons rx (.cons ry .nil)) w (.cons r1 (.cons r2 .nil)) cq2 z
  obtain ⟨b, d2, od2, rfl, rfl, J2⟩ := insD_at w I r2 ry i2
  refine ne_own (by have := c.r.units; omega) I.kIn J1 J2.type first_self ne hm.at_ hm.fn oC (thn run fun v' s' ⟨z', H', I', rz, b', e, qz⟩ => ?_)
  subst e
  exact ⟨b', rz, .bl (!b'), H', I', rfl, qz⟩
theorem dc_lenO (hK : X.K = K) (M : Mfn X.prog X.w X.K X.mg X.base CX0 j C "__len__" ps (spD K sp)) (c : Ct X.mg X.A k) (h : j + 1 ≤ k) : CallR X (.builtin "len") (liftAM K (rmLen C sp)) := by
  subst hK
  obtain ⟨f, fd, F, hm, hb⟩ := M
  intro pins s σ H xs us Q I rel ⟨J, ω, ds, q, w, rs, cq, d, e, i1, z⟩
  subst e
  cases rs with
  | cons r1 r2 =>
  cases r2
  obtain ⟨u, rfl, rx⟩ := vals1 rel
  obtain ⟨a, d1, od, rfl, rfl, J1⟩ := insD_at w I r1 rx i1
  have cq2 : CovQ X.K J H ω (fun r ω1 => ∃ n : Int, r = .int n ∧ 0 ≤ n ∧ n < 2 ^ 63 ∧ q r ω1) (fun v' H' => ∃ n : Int, v' = .int n ∧ 0 ≤ n ∧ n < 2 ^ 63 ∧ Q (.int n) H') := fun r ω' v' J' H' ⟨n, e, h0, h1, z⟩ g w' rp => by
    subst e
    cases rp
    exact ⟨n, rfl, h0, h1, cq _ _ _ _ _ z g w' (.int _)⟩
  have run := own_run F hb (c.r.mono h).in1 c.g I.env0.in1 I rel w (.cons r1 .nil) cq2 z
  obtain ⟨mm, hF⟩ := I.fr
  refine PySem.W.len_K hF I.ok.mod.kin J1 hm.at_ hm.fn (thn run fun v' s' ⟨z', H', I', rz, n, e, h0, h1, qz⟩ => ?_)
  subst e
  obtain ⟨tk, rfl⟩ := (show ∃ t, v' = Value.int n t from rz)
  exact ⟨⟨h0, h1⟩, .int n, H', I'.tok _, ⟨_, rfl⟩, qz⟩
theorem dc_boolO (hK : X.K = K) (M : Mfn X.prog X.w X.K X.mg X.base CX0 j C "__bool__" ps (spD K sp)) (c : Ct X.mg X.A k) (h : j + 2 ≤ k) : CallR X (.type "bool") (liftAM K (rmBool C sp)) := by
  subst hK
  obtain ⟨f, fd, F, hm, hb⟩ := M
  intro pins s σ H xs us Q I rel ⟨J, ω, ds, q, w, rs, cq, d, e, i1, z⟩
  subst e
  cases rs with
  | cons r1 r2 =>
  cases r2
  obtain ⟨u, rfl, rx⟩ := vals1 rel
  obtain ⟨a, d1, od, rfl, rfl, J1⟩ := insD_at w I r1 rx i1
  have cq2 : CovQ X.K J H ω (fun r ω1 => ∃ b, r = .bool b ∧ q r ω1) (fun v' H' => ∃ b, v' = .bl b ∧ Q (.bl b) H') := fun r ω' v' J' H' ⟨b, e, z⟩ g w' rp => by
    subst e
    cases rp
    exact ⟨b, rfl, cq _ _ _ _ _ z g w' (.bl _)⟩
  have run := own_run F hb (c.r.mono h).in1.in1 c.g I.env0.in1.in1 I rel w (.cons r1 .nil) cq2 z
  refine bool_own I.kIn J1 hm.at_ hm.fn (thn run fun v' s' ⟨z', H', I', rz, b, e, qz⟩ => ?_)
  subst e
  exact ⟨b, rz, .bl b, H', I', rz, qz⟩
theorem set_own (hK : X.K = K) (M : Mfn X.prog X.w X.K X.mg X.base CX0 j C "__setitem__" ps (spD K sp)) (c : Ct X.mg X.A k) (h : j ≤ k) (nq : PySem.W.noSeq K C = true) : PSet X (liftSt K (rsOwn C sp)) := by
  subst hK
  obtain ⟨f, fd, F, hm, hb⟩ := M
  intro pins s σ H o i v ov iv u Q I ro ri rv ⟨J, ω, dO, dI, dV, q, w, r1, r2, r3, cq, i1, z⟩
  obtain ⟨a, d1, od, rfl, rfl, J1⟩ := insD_at w I r1 ro i1
  have cq2 : CovQ X.K J H ω (fun _ ω1 => q ω1) (fun _ H' => Q H') := fun r ω' v' J' H' z g w' _ => cq _ _ _ z g w'
  have run := own_run F hb (c.r.mono h) c.g I.env0 I (.cons ro (.cons ri (.cons rv .nil))) w (.cons r1 (.cons r2 (.cons r3 .nil))) cq2 z
  obtain ⟨mm, hF⟩ := I.fr
  exact PySem.W.ksp_setItem hF I.ok.mod.kin J1 nq hm.at_ hm.fn (thn run fun v' s' ⟨z', H', I', rz, qz⟩ => ⟨H', I', qz⟩)
theorem set_listO : PSet X (liftSt K rsList) := by
  intro pins s σ H o i v ov iv u Q I ro ri rv ⟨J, ω, dO, dI, dV, q, w, r1, r2, r3, cq, a, xs, k, jj, e1, e2, e3, e4, z⟩
  subst e1 e2
  obtain rfl := rp_ref r1
  cases r2
  obtain ⟨vs, h1, h2⟩ := w.cell a _ e3
  refine set_list pins s σ H _ _ v ov iv u Q I ro ri rv ⟨a, vs, k, jj, rfl, rfl, h1, by rw [h2.length]; exact e4, cq _ _ _ z (Grow.set e3 rfl _) (w.set e3 rfl ⟨_, upd_same, h2.set jj r3⟩)⟩
end
end Tx

namespace Tx
open PySem PySem.Spec PyProof.Rows L2
/-! ## Rules: own operators, own lists that a comprehension makes -/
def dOpM (rd : RM2) (ta tb : DTE) (ρ : DS) (ω : Wd) (q : DQ) (x : DXK) : Prop := ta ρ ω (fun a ω1 => tb ρ ω1 (fun b ω2 => rd a b ω2 q) x) x
def dCBM (rd : RM1) (ta : DTA) (ρ : DS) (ω : Wd) (q : DQ) (x : DXK) : Prop := ta ρ ω (fun as ω1 => rd as ω1 q) x
def dAug (i : Nat) (te : DTE) (rd : RM2) (D : DEnds) (ρ : DS) (ω : Wd) : Prop := match ρ[i]? with
  | some (some d) => te ρ ω (fun r ω1 => rd d r ω1 fun v ω2 => D.nx (ρ.set i (some v)) ω2) (xcOf D ρ)
  | _ => False
def dSetS (to ti te : DTE) (rd : RMS) (D : DEnds) (ρ : DS) (ω : Wd) : Prop := te ρ ω (fun v ω1 => to ρ ω1 (fun o ω2 => ti ρ ω2 (fun i ω3 => rd o i v ω3 fun ω4 => D.nx ρ ω4) (xcOf D ρ)) (xcOf D ρ)) (xcOf D ρ)
/-- isinstance(x, C), C a class of the text -/
inductive TyD (K : PySem.W.Frag) (ω : Wd) : PyData → Value → Prop
  | data {d : PyData} (h : match rsv ω d with
      | .dict _ => False
      | _ => True) : TyD K ω d (.type (tyN (rsv ω d)))
  | ins {C : Addr} {m : Str} {d : PyData} (i : InsD C m ω d) (cl : Cls K C) (ha : PySem.W.findIn K (.ref C) "__class__" = some (some (.builtin "object.__class__")))
      (hn : PySem.W.specialIn K (.builtin "object.__class__") "__get__" = some (some (.builtin "getset_descriptor.__get__"))) (htk : PySem.W.takesIn K (.builtin "object.__class__") = some true)
      (hm : PySem.W.mroIn K C (.type "object") = some true) : TyD K ω d (.ref C)
def dIsC (K : PySem.W.Frag) (C : Addr) (te : DTE) (ρ : DS) (ω : Wd) (q : DQ) (x : DXK) : Prop := te ρ ω (fun r ω1 => ∃ t b, TyD K ω1 r t ∧ PySem.W.kitOne K t (.ref C) = some b ∧ q (.bool b) ω1) x
/-- a list that becomes data -/
def dFrzE (te : DTE) (ρ : DS) (ω : Wd) (q : DQ) (x : DXK) : Prop := te ρ ω (fun v ω1 => ∃ a ds, v = refD a ∧ ω1 a = some (.lst ds) ∧ q (.list ds) (delW ω1 a)) x
/-- a + b, both lists, a list of one's own -/
def rmCat : RM2 := fun a b ω q => ∃ xs ys, rsv ω a = .list xs ∧ rsv ω b = .list ys ∧ xs.length + ys.length ≤ sizeLine ∧ ∀ p, ω p = none → q (refD p) (updW ω p (.lst (xs ++ ys)))
theorem dm_cat {X : Cx} {K : PySem.W.Frag} (hK : X.K = K) : OpR X (binaryOp .Add) (lift2M K rmCat) := by
  subst hK
  intro pins s σ H x y v u Q I rx ry ⟨J, ω, dx, dy, q, w, hx, hy, c, xs, ys, ex, ey, l, z⟩
  obtain ⟨a, vs, rfl, ha, ra⟩ := rp_list w hx ex
  obtain ⟨b, ws, rfl, hb, rb⟩ := rp_list w hy ey
  exact op_cat pins s σ H _ _ v u Q I rx ry ⟨a, b, vs, ws, rfl, rfl, ha, hb, by rw [ra.length, rb.length]; exact l, fun p hp => c _ _ _ _ _ (z p (w.free hp).1) (Grow.own rfl hp _) (w.own rfl hp ⟨_, upd_same, ra.append rb⟩) (.ref p)⟩
section
variable {W : WX} {X : Cx} {K : PySem.W.Frag} {a b e o i t : Expr} {es : List Expr} {ta tb te to ti : DTE} {tA : DTA} {pos p pos' : Pos}
theorem dOpM_run {ra rb : TE} {rd : RM2} {σ : L2.St} {H J : Hp} {ω : Wd} {ρ : DS} {q : DQ} {x : DXK} {Q : VK}
    (ka : ∀ σ H J ω ρ q x Q, Rw K J H ω → Sl K J σ ρ → CovQ K J H ω q Q → CovX K J H ω x (fun c d H => W c d σ H) → ta ρ ω q x → ra σ H Q) (kb : ∀ σ H J ω ρ q x Q, Rw K J H ω → Sl K J σ ρ → CovQ K J H ω q Q → CovX K J H ω x (fun c d H => W c d σ H) → tb ρ ω q x → rb σ H Q)
    (w : Rw K J H ω) (s : Sl K J σ ρ) (cq : CovQ K J H ω q Q) (cx : CovX K J H ω x (fun c d H => W c d σ H)) (z : dOpM rd ta tb ρ ω q x) : tOp (lift2M K rd) ra rb σ H Q :=
  ka σ H J ω ρ _ x _ w s (fun r1 ω1 v1 J1 H1 z1 g1 w1 rp1 => kb σ H1 J1 ω1 ρ _ x _ w1 (s.mono g1.jj) (fun r2 ω2 v2 J2 H2 z2 g2 w2 rp2 => ⟨J2, ω2, r1, r2, q, w2, rp_mono g2.jj _ _ rp1, rp2, (cq.step g1).step g2, z2⟩) (cx.step g1) z1) cx z
theorem de_opM {op : Operator} {rd : RM2} (ho : OpR X (binaryOp op) (lift2M K rd)) (ha : DE W X K a ta) (hb : DE W X K b tb) : DE W X K (.BinOp a op b pos) (dOpM rd ta tb) := by
  obtain ⟨ra, pa, ka⟩ := ha
  obtain ⟨rb, pb, kb⟩ := hb
  exact ⟨_, pe_op ho pa pb, fun σ H J ω ρ q x Q w s cq cx z => dOpM_run ka kb w s cq cx z⟩
theorem de_cmpM {op : CmpOp} {rd : RM2} (ho : OpR X (compareOp op) (lift2M K rd)) (ha : DE W X K a ta) (hb : DE W X K b tb) (hm : behindInMarks op b = false) : DE W X K (.Compare a [op] [b] pos) (dOpM rd ta tb) := by
  obtain ⟨ra, pa, ka⟩ := ha
  obtain ⟨rb, pb, kb⟩ := hb
  exact ⟨_, pe_cmpR ho pa pb hm, fun σ H J ω ρ q x Q w s cq cx z => dOpM_run ka kb w s cq cx z⟩
theorem dt_cmpM {op : CmpOp} {rd : RM2} (ho : OpR X (compareOp op) (lift2M K rd)) (ha : DE W X K a ta) (hb : DE W X K b tb) (hm : behindInMarks op b = false) : DT W X K (.Compare a [op] [b] pos) (dTest (dOpM rd ta tb)) := by
  obtain ⟨ra, pa, ka⟩ := ha
  obtain ⟨rb, pb, kb⟩ := hb
  exact ⟨_, pt_cmpR ho pa pb hm, fun σ H J ω ρ q x Q w s cq cx z => dOpM_run ka kb w s (covT_test cq) cx z⟩
theorem de_callBM {x : Str} {id : String} {rd : RM1} (hc : CallR X (.builtin id) (liftAM K rd)) (hg : Gl X x) (hm : X.mg x = none) (hv : bootBuiltins x = some (.builtin id)) (ha : DAs W X K (e :: es) tA) (hn : x ≠ "__name__" := by decide) (hdb : (x == ("__debug__" : Str)) = false := by decide)
    (he : starEach (e :: es) X.env = (false, eval e X.env) :: starEach es X.env := by rfl) (hpl : (backTo pos (starEach es X.env)).any (·.1) = false := by rfl) : DE W X K (.Call (.Name x p) (e :: es) [] pos) (dCBM rd tA) := by
  obtain ⟨ra, pa, ka⟩ := ha
  exact ⟨_, pe_callB hc hg hm hv pa hn hdb he hpl, fun σ H J ω ρ q x Q w s cq cx z => ka σ H J ω ρ _ x _ w s (fun rs ω1 vs J1 H1 z1 g1 w1 rps => ⟨J1, ω1, rs, q, w1, rps, cq.step g1, z1⟩) cx z⟩
theorem de_callTyM {x : Str} {T : String} {rd : RM1} (hc : CallR X (.type T) (liftAM K rd)) (hg : Gl X x) (hm : X.mg x = none) (hv : bootBuiltins x = some (.type T)) (ha : DAs W X K (e :: es) tA) (hn : x ≠ "__name__" := by decide) (hdb : (x == ("__debug__" : Str)) = false := by decide)
    (he : starEach (e :: es) X.env = (false, eval e X.env) :: starEach es X.env := by rfl) (hpl : (backTo pos (starEach es X.env)).any (·.1) = false := by rfl) : DE W X K (.Call (.Name x p) (e :: es) [] pos) (dCBM rd tA) := by
  obtain ⟨ra, pa, ka⟩ := ha
  exact ⟨_, pe_callTy hc hg hm hv pa hn hdb he hpl, fun σ H J ω ρ q x Q w s cq cx z => ka σ H J ω ρ _ x _ w s (fun rs ω1 vs J1 H1 z1 g1 w1 rps => ⟨J1, ω1, rs, q, w1, rps, cq.step g1, z1⟩) cx z⟩
theorem ds_aug {n : Nat} {x : Str} {op : Operator} {rd : RM2} (hN : X.N.Nodup) (hi : X.N[n]? = some x) (hx : Loc X.env.scope x) (he : DE W X K e te) (ho : PIp X op (lift2M K rd)) (hf : X.fn x = true ∨ X.env.scope.names.lookup x = some .local := by first | exact .inl rfl | exact .inr rfl | assumption) :
    DSt W X K (.AugAssign (.Name x pos') op e pos) (dAug n te rd) := by
  obtain ⟨r, pe, k⟩ := he
  refine ⟨_, ps_aug hN hi hx pe ho hf, fun D DD σ H J ω ρ w s cs z => ?_⟩
  obtain ⟨v, d, h1, h2, z⟩ := s.var (q := fun d => te ρ ω (fun r ω1 => rd d r ω1 fun v ω2 => DD.nx (ρ.set n (some v)) ω2) (xcOf DD ρ)) z
  refine ⟨v, h1, k σ H J ω ρ _ _ _ w s (fun r ω1 v1 J1 H1 z1 g1 w1 rp => ?_) (cs.x s) z⟩
  refine ⟨J1, ω1, d, r, _, w1, rp_mono g1.jj _ _ h2, rp, fun r2 ω2 v2 J2 H2 z2 g2 w2 rp2 => ?_, z1⟩
  exact cs.nx _ _ _ _ _ z2 (g1.trans g2) w2 ((s.mono (g1.trans g2).jj).set n rp2)
theorem ds_setS {rd : RMS} {pos2 : Pos} (ho : DE W X K o to) (hi : DE W X K i ti) (he : DE W X K e te) (hset : PSet X (liftSt K rd))
    (ha : ∀ v, assign (.Subscript o i pos2) X.env v = (do
      let ov ← holding [v] (eval o X.env)
      let iv ← holding [v, ov] (eval i X.env)
      standAt pos2
      holding [v, ov, iv] (setItem ov iv v)
      release [v, ov, iv] []) := by intro _; rfl)
    (hs : swapsWithSole [.Subscript o i pos2] e pos.line X.env = pure false := by rfl) (hw : swappedStores [.Subscript o i pos2] e X.env = pure none := by rfl) (h1 : (assignEach [.Subscript o i pos2] X.env).map (·.2) = [assign (.Subscript o i pos2) X.env] := by rfl) :
    DSt W X K (.Assign [.Subscript o i pos2] e pos) (dSetS to ti te rd) := by
  obtain ⟨ro, po, ko⟩ := ho
  obtain ⟨ri, pi, ki⟩ := hi
  obtain ⟨re, pe, ke⟩ := he
  refine ⟨_, ps_asg pe (pg_sub po pi hset ha) hs hw h1, fun D DD σ H J ω ρ w s cs z => ke σ H J ω ρ _ _ _ w s (fun r ω1 v J1 H1 z1 g1 w1 rp => ?_) (cs.x s) z⟩
  refine ko σ H1 J1 ω1 ρ _ _ _ w1 (s.mono g1.jj) (fun r2 ω2 v2 J2 H2 z2 g2 w2 rp2 => ?_) ((cs.x s).step g1) z1
  refine ki σ H2 J2 ω2 ρ _ _ _ w2 (s.mono (g1.trans g2).jj) (fun r3 ω3 v3 J3 H3 z3 g3 w3 rp3 => ?_) ((cs.x s).step (g1.trans g2)) z2
  refine ⟨J3, ω3, r2, r3, r, _, w3, rp_mono g3.jj _ _ rp2, rp3, rp_mono (g2.trans g3).jj _ _ rp, fun ω4 J4 H4 z4 g4 w4 => ?_, z3⟩
  exact cs.nx _ _ _ _ _ z4 (((g1.trans g2).trans g3).trans g4) w4 (s.mono (((g1.trans g2).trans g3).trans g4).jj)
theorem tyD_x {J H : Hp} {ω : Wd} {v : V} {d : PyData} {t : Value} (w : Rw K J H ω) (r : Rp K J v d) (h : TyD K ω d t) : TyX K H v t := by
  cases h with
  | data h => exact tyx_rp w r h
  | ins i cl ha hn htk hm =>
    obtain ⟨a, mo, rfl, e, i⟩ := i
    obtain rfl := rp_ref r
    obtain ⟨dx, fs, e2, _⟩ := w.ins e i
    exact .base (.ins e2 cl ha hn htk hm)
theorem de_isC {C : Addr} (hK : X.K = K) (hg : Gl X "isinstance") (hm : X.mg "isinstance" = none) (ha : DE W X K a ta) (ht : PE X t (tC (.ref C)))
    (he : starEach (a :: [t]) X.env = (false, eval a X.env) :: starEach [t] X.env := by rfl) (he2 : starEach [t] X.env = (false, eval t X.env) :: starEach [] X.env := by rfl) (hpl : (backTo pos (starEach [t] X.env)).any (·.1) = false := by rfl) :
    DE W X K (.Call (.Name "isinstance" p) [a, t] [] pos) (dIsC K C ta) := by
  subst hK
  obtain ⟨ra, pa, ka⟩ := ha
  refine ⟨_, pe_callB call_isi hg hm (by decide +kernel) (pa_cons pa (pa_cons ht pa_nil he2) he) (by decide) (by decide) he hpl, fun σ H J ω ρ q x Q w s cq cx z => ka σ H J ω ρ _ x _ w s (fun r ω1 v J1 H1 z1 g1 w1 rp => ?_) cx z⟩
  obtain ⟨t', b', ty, kt, z1⟩ := z1
  exact ⟨v, .ref C, t', .ref C, b', rfl, .own C, tyD_x w1 rp ty, kt, (cq.step g1).now w1 z1 (.bl _)⟩
theorem de_frzE (h : DE W X K e te) : DE W X K e (dFrzE te) := by
  obtain ⟨r, p, k⟩ := h
  refine ⟨r, p, fun σ H J ω ρ q x Q w s cq cx z => k σ H J ω ρ _ x Q w s (fun v ω1 u J1 H1 z1 g1 w1 rp => ?_) cx z⟩
  obtain ⟨a, ds, rfl, e1, z1⟩ := z1
  obtain rfl := rp_ref rp
  obtain ⟨vs, h3, h4⟩ := w1.cell a _ e1
  exact cq _ _ _ _ _ z1 (g1.trans (Grow.fix w1 e1 h3)) (w1.fix e1 h3) (.lst upd_same (rpAll_mono (same_new (w1.out _ _ e1) _) _ _ h4))
end
end Tx

namespace Tx
open PySem PySem.Spec PyProof.Rows L2
/-! ## Comprehensions that make a list of one's own; walks over one -/
def WalkP (K : PySem.W.Frag) (J : Hp) (I : It) (xs : List PyData) (P : Wd → Prop) : Prop := ∃ G Y, Walk I xs.length G Y ∧ (∀ J' H' ω', Same J J' → Rw K J' H' ω' → P ω' → G H') ∧
  ∀ i H v H' J' ω', i < xs.length → Same J J' → Rw K J' H ω' → P ω' → Y i H v H' → (H' = H ∧ ∃ d, xs[i]? = some d ∧ Rp K J' v d) ∨ ∃ T us ds, v = .ref T ∧ H T = none ∧ H' = upd H T (.tup us) ∧ RpAll K J' us ds ∧ xs[i]? = some (.tuple ds)
abbrev DTIo := DS → Wd → (List PyData → (Wd → Prop) → Wd → Prop) → DXK → Prop
structure DIo (W : WX) (X : Cx) (K : PySem.W.Frag) (tg iter : Expr) (di : DTIo) : Prop where
  ex : ∃ wi : TI, PI X tg iter wi ∧ ∀ σ H J ω ρ (k : List PyData → (Wd → Prop) → Wd → Prop) x (R : It → Hp → Prop), Rw K J H ω → Sl K J σ ρ → (∀ xs P ω1 J1 H1 I, k xs P ω1 → Grow J H ω J1 H1 ω1 → Rw K J1 H1 ω1 → WalkP K J1 I xs P → R I H1) →
    CovX K J H ω x (fun c d H => W c d σ H) → di ρ ω k x → wi σ H R
def dioD (di : DTI) (ρ : DS) (ω : Wd) (k : List PyData → (Wd → Prop) → Wd → Prop) (x : DXK) : Prop := di ρ ω (fun xs ω1 => k xs (fun _ => True) ω1) x
def dioO (te : DTE) (ρ : DS) (ω : Wd) (k : List PyData → (Wd → Prop) → Wd → Prop) (x : DXK) : Prop := te ρ ω (fun r ω1 => ∃ a xs, r = refD a ∧ ω1 a = some (.lst xs) ∧ k xs (fun ω' => ω' a = some (.lst xs)) ω1) x
section
variable {K : PySem.W.Frag} {J : Hp} {I : It} {xs : List PyData} {P : Wd → Prop}
theorem WalkD.p (h : WalkD K J I xs) : WalkP K J I xs P := by
  obtain ⟨G, Y, w, g, y⟩ := h
  refine ⟨G, Y, w, fun J' H' ω' s r _ => g J' H' s r.jh, fun i H v H' J' ω' hi s r _ z => ?_⟩
  rcases y i H v H' hi z with ⟨e, d, e1, e2⟩ | ⟨T, us, ds, e1, e2, e3, e4, e5⟩
  · exact .inl ⟨e, d, e1, rp_mono s _ _ e2⟩
  · exact .inr ⟨T, us, ds, e1, e2, e3, rpAll_mono s _ _ e4, e5⟩
theorem walk_own {a : Addr} {n : Nat} : Walk (Itl K a) n (fun H => ∃ vs, H a = some (.lst vs) ∧ vs.length = n) (fun i H v H' => H' = H ∧ ∀ vs, H a = some (.lst vs) → vs[i]? = some v) := by
  refine ⟨fun i H hi ⟨vs, e, l⟩ => ?_, fun H ⟨vs, e, l⟩ => ⟨vs, SqL.of e, by omega⟩, fun i H x H' hi _ y => ⟨y.1, fun vs e => y.2 vs (SqL.of e)⟩⟩
  have : i < vs.length := by omega
  exact ⟨vs, vs[i], SqL.of e, List.getElem?_eq_getElem this⟩
theorem walkP_own {a : Addr} : WalkP K J (Itl K a) xs (fun ω => ω a = some (.lst xs)) := by
  refine ⟨_, _, walk_own, fun J' H' ω' _ r p => ?_, fun i H v H' J' ω' hi _ r p y => .inl ⟨y.1, ?_⟩⟩
  · obtain ⟨vs, e, ra⟩ := r.cell a _ p
    exact ⟨vs, e, ra.length⟩
  · obtain ⟨vs, e, ra⟩ := r.cell a _ p
    exact ra.get (y.2 vs e)
end
section
variable {W : WX} {X : Cx} {K : PySem.W.Frag} {tg e : Expr} {te : DTE} {di : DTI}
theorem dio_d (h : DI W X K tg e di) : DIo W X K tg e (dioD di) := by
  obtain ⟨wi, p, k⟩ := h
  exact ⟨wi, p, fun σ H J ω ρ kk x R w s c cx z => k σ H J ω ρ _ x R w s (fun xs ω1 J1 H1 I z1 g1 w1 wd => c _ _ _ _ _ _ z1 g1 w1 wd.p) cx z⟩
theorem dio_o (hK : X.K = K) (h : DE W X K e te) : DIo W X K tg e (dioO te) := by
  subst hK
  obtain ⟨t, p, k⟩ := h
  refine ⟨_, pi_data p, fun σ H J ω ρ kk x R w s c cx z => k σ H J ω ρ _ x _ w s (fun r ω1 v J1 H1 z1 g1 w1 rp => ?_) cx z⟩
  obtain ⟨a, xs, rfl, e1, z1⟩ := z1
  obtain rfl := rp_ref rp
  obtain ⟨vs, e2, _⟩ := w1.cell a _ e1
  exact .inl ⟨a, rfl, ⟨vs, SqL.of e2⟩, c _ _ _ _ _ _ z1 g1 w1 walkP_own⟩
end
def lcBody (gd : DTG) (tt : DTT) (te : DTE) (vs : List Nat) (ρ : DS) (q : DQ) (xs : List PyData) (P : Wd → Prop) (ω1 : Wd) : Prop := xs.length ≤ sizeLine ∧ ∃ Inv : Nat → List PyData → Wd → Prop, Inv 0 [] ω1 ∧ (∀ i acc ω2, Inv i acc ω2 → P ω2) ∧
  (∀ i y acc ω2, xs[i]? = some y → Inv i acc ω2 → acc.length ≤ i → gd y (wipeD ρ vs) fun ρ' => tt ρ' ω2 (fun b ω3 => if b = true then te ρ' ω3 (fun r ω4 => Inv (i + 1) (acc ++ [r]) ω4) X0 else Inv (i + 1) acc ω3) X0) ∧
  ∀ acc ω2, acc.length ≤ xs.length → Inv xs.length acc ω2 → ∀ p, ω2 p = none → q (refD p) (updW ω2 p (.lst acc))
def dLcO (di : DTIo) (gd : DTG) (tt : DTT) (te : DTE) (vs : List Nat) (ρ : DS) (ω : Wd) (q : DQ) (x : DXK) : Prop := di ρ ω (lcBody gd tt te vs ρ q) x
section
variable {K : PySem.W.Frag} {J J1 H H1 : Hp} {ω ω1 : Wd} {D : Addr} {us : List V} {acc : List PyData}
theorem Rw.own2 (w : Rw K J H ω) (hj : J D = none) (hw : Fr ω D) (h : H D = some (.lst us)) (r : RpAll K J us acc) : Rw K J H (updW ω D (.lst acc)) := by
  refine w.step (Same.refl _) w.jh (fun _ _ j => j) fun b m e => ?_
  by_cases z : b = D
  · subst z
    rw [updW_same] at e
    cases e
    refine .inr ⟨hj, ⟨us, h, r⟩, fun _ z => False.elim z, fun c m' nc ec => ⟨?_, fun _ z => False.elim z⟩⟩
    rw [updW_ne nc] at ec
    exact hw.2 c m' ec
  · rw [updW_ne z] at e
    exact .inl ⟨e, fun _ _ _ y => y⟩
theorem Grow.own2 (g : Grow J H ω J1 H1 ω1) (hD : H D = none) : Grow J H ω J1 H1 (updW ω1 D (.lst acc)) :=
  ⟨g.jj, g.dom, g.keep, g.frj, fun a h z => fr_upd rfl (g.frw a h z) (ne_new h hD)⟩
end
section
variable {W : WX} {X : Cx} {K : PySem.W.Frag} {elt tg iter : Expr} {ifs : List Expr} {scope : Scope} {own : List (Str × Nat)} {pos : Pos} {is : List Nat} {di : DTIo} {gd : DTG} {tt : DTT} {te : DTE}
theorem lcO_run {wi : TI} (hi : ∀ σ H J ω ρ (k : List PyData → (Wd → Prop) → Wd → Prop) x (R : It → Hp → Prop), Rw K J H ω → Sl K J σ ρ → (∀ xs P ω1 J1 H1 I, k xs P ω1 → Grow J H ω J1 H1 ω1 → Rw K J1 H1 ω1 → WalkP K J1 I xs P → R I H1) →
    CovX K J H ω x (fun c d H => W c d σ H) → di ρ ω k x → wi σ H R) {vs : List Nat} (his : ∀ i ∈ is, i ∈ vs)
    {σ : L2.St} {H J : Hp} {ω : Wd} {ρ : DS} {q : DQ} {x : DXK} {Q : VK} (w : Rw K J H ω) (s : Sl K J σ ρ) (cq : CovQ K J H ω q Q) (cx : CovX K J H ω x (fun c d H => W c d σ H)) (z : dLcO di gd tt te vs ρ ω q x) :
    tLc wi (liftG K is gd) (liftT K W0 tt) (liftE K W0 te) vs σ H Q := by
  refine hi σ H J ω ρ _ x _ w s (fun xs P ω1 J1 H1 I z1 g1 w1 wd => ?_) cx z
  intro D hD
  obtain ⟨hz, Inv, i0, iP, step, fin⟩ := z1
  obtain ⟨G, Y, wk, hG, hY⟩ := wd
  have hjD : J1 D = none := w1.jh.free hD
  have s1 := s.mono g1.jj
  refine lc_it wk (fun i H' => ∃ J' ω' acc us, Grow J1 H1 ω1 J' H' ω' ∧ Rw K J' H' ω' ∧ H' D = some (.lst us) ∧ J' D = none ∧ Fr ω' D ∧ RpAll K J' us acc ∧ acc.length ≤ i ∧ Inv i acc ω') ?_ ?_ ?_ ?_
  · exact ⟨J1, ω1, [], [], Grow.junk hD _, w1.junk hD _, upd_same, hjD, w1.free hD, .nil, Nat.le_refl _, i0⟩
  · rintro i H' _ ⟨J', ω', acc, us, g, w', _, _, _, _, _, iv⟩
    exact hG J' H' ω' g.jj w' (iP _ _ _ iv)
  · rintro i v H2 H2' hi ⟨J2, ω2, acc, us, g2, w2, hD2, jD2, oD2, ra, al, inv⟩ y
    have go : ∀ (d : PyData) (J3 H3 : Hp), xs[i]? = some d → Grow J2 H2 ω2 J3 H3 ω2 → Rw K J3 H3 ω2 → Rp K J3 v d → liftG K is gd v (wipe σ vs) H3 fun σ2 H2 => wipe σ2 vs = wipe σ vs ∧ liftT K W0 tt σ2 H2 fun b H3 =>
        if b = true then liftE K W0 te σ2 H3 fun y H4 => ∃ acc, H4 D = some (.lst acc) ∧ acc.length < sizeLine ∧ (∃ J' ω' acc' us, Grow J1 H1 ω1 J' (upd H4 D (.lst (acc ++ [y]))) ω' ∧ Rw K J' (upd H4 D (.lst (acc ++ [y]))) ω' ∧ upd H4 D (.lst (acc ++ [y])) D = some (.lst us) ∧ J' D = none ∧ Fr ω' D ∧ RpAll K J' us acc' ∧ acc'.length ≤ i + 1 ∧ Inv (i + 1) acc' ω')
        else ∃ J' ω' acc us, Grow J1 H1 ω1 J' H3 ω' ∧ Rw K J' H3 ω' ∧ H3 D = some (.lst us) ∧ J' D = none ∧ Fr ω' D ∧ RpAll K J' us acc ∧ acc.length ≤ i + 1 ∧ Inv (i + 1) acc ω' := by
      intro d J3 H3 e3 g3 w3 r3
      have hD3 := g3.keep D _ hD2 oD2
      have nD2 : H2 D ≠ none := by rw [hD2]; simp
      have jD3 := g3.frj D nD2 oD2 jD2
      refine ⟨J3, ω2, wipeD ρ vs, d, _, w3, (s1.mono (g2.jj.trans g3.jj)).wipe vs, r3, fun ρ' σ' z4 s4 ew => ⟨(ew vs his).trans (wipe_wipe σ vs), ?_⟩, step i d acc ω2 e3 inv al⟩
      refine ⟨J3, ω2, ρ', _, X0, w3, s4, fun b ω5 J5 H5 z5 g5 w5 => ?_, (fun _ _ _ _ _ _ z => False.elim z), z4⟩
      have nD3 : H3 D ≠ none := by rw [hD3]; simp
      have hD5 := g5.keep D _ hD3 oD2
      have jD5 := g5.frj D nD3 oD2 jD3
      have oD5 := g5.frw D nD3 oD2
      have nD5 : H5 D ≠ none := by rw [hD5]; simp
      cases b with
      | false =>
        refine iteF ⟨J5, ω5, acc, us, (g2.trans g3).trans g5, w5, hD5, jD5, oD5, rpAll_mono (g3.jj.trans g5.jj) _ _ ra, by omega, by simpa using z5⟩
      | true =>
        refine iteT ⟨J5, ω5, ρ', _, X0, w5, s4.mono g5.jj, fun r ω6 y J6 H6 z6 g6 w6 r6 => ?_, (fun _ _ _ _ _ _ z => False.elim z), by simpa using z5⟩
        have hD6 := g6.keep D _ hD5 oD5
        have jD6 := g6.frj D nD5 oD5 jD5
        have oD6 := g6.frw D nD5 oD5
        have ul := ra.length
        refine ⟨us, hD6, by omega, J6, ω6, acc ++ [r], us ++ [y], (((g2.trans g3).trans g5).trans g6).loc hD _, w6.loc jD6 oD6 _, upd_same, jD6, oD6, RpAll.append (rpAll_mono ((g3.jj.trans g5.jj).trans g6.jj) _ _ ra) (.one r6), by rw [List.length_append]; simp; omega, z6⟩
    rcases hY i H2 v H2' J2 ω2 hi g2.jj w2 (iP _ _ _ inv) y with ⟨rfl, d, e1, e2⟩ | ⟨T, us2, ds, rfl, hT, rfl, e1, e2⟩
    · exact go d J2 _ e1 Grow.refl w2 e2
    · exact go (.tuple ds) _ _ e2 (Grow.frz w2 hT _) (w2.frz hT _) (.tup (SqT.of upd_same) (rpAll_mono (same_new (w2.jh.free hT) _) _ _ e1))
  · rintro H2 ⟨J2, ω2, acc, us, g2, w2, hD2, jD2, oD2, ra, al, inv⟩
    exact (cq.step g1) _ _ _ _ _ (fin acc ω2 al inv D oD2.1) (g2.own2 hD) (w2.own2 jD2 oD2 hD2 ra) (.ref D)
theorem de_lcO (hc : X.calm = true) (hN : X.N.Nodup) (hi : DIo W X K tg iter di) (ok : BlkOk X.N X.env.scope scope own)
    (hg : ∀ (s : Shared) (H : Hp) (C : Addr) (cl : List (Str × Addr)) (fp : List Addr), DG (X.blk s H scope (compEnvC scope cl C X.env) fp) K tg is gd)
    (ht : ∀ (s : Shared) (H : Hp) (C : Addr) (cl : List (Str × Addr)) (fp : List Addr), DTs W0 (X.blk s H scope (compEnvC scope cl C X.env) fp) K ifs tt)
    (he : ∀ (s : Shared) (H : Hp) (C : Addr) (cl : List (Str × Addr)) (fp : List Addr), DE W0 (X.blk s H scope (compEnvC scope cl C X.env) fp) K elt te)
    (his : ∀ i ∈ is, i ∈ own.map (·.2) := by decide) (hs : ∀ x, foldedSetIterable iter X.env x = pure x := by intro _; rfl) :
    DE W X K (.ListComp elt [⟨tg, iter, ifs, 0⟩] scope pos) (dLcO di gd tt te (own.map (·.2))) := by
  obtain ⟨wi, p, k⟩ := hi
  exact ⟨_, pe_lc hc hN p ok hg (fun s H C cl fp => (ht s H C cl fp).ps) (fun s H C cl fp => (he s H C cl fp).pe) hs, fun σ H J ω ρ q x Q w s cq cx z => lcO_run k his w s cq cx z⟩
end
end Tx

namespace Tx
open PySem PySem.Spec PyProof.Rows L2
/-! ## A range of far bounds that has nothing; operators from the right -/
theorem turn_none {P : Program} {w : World} {K : PySem.W.Frag} {tg : Expr} (it : Addr) : Turn P w K tg (Itr 0 0) [it] it (fun _ h => ∃ x l st, IsLongIter h it x l st ∧ l ≤ 0) where
  mem := List.mem_singleton.mpr rfl
  obj := fun i h ⟨x, l, st, e, _⟩ b hb => by
    rw [List.mem_singleton.mp hb]
    exact ⟨_, e, fun v z => by
      have z2 : Data.fields _ = Data.cell v := z
      cases z2⟩
  keep := fun i h h' ⟨x, l, st, e, le⟩ k => ⟨x, l, st, k it (List.mem_singleton.mpr rfl) _ e, le⟩
  item := fun X _ _ _ _ i pins s σ H E _ _ _ go => absurd (show i < 0 from go) (Nat.not_lt_zero i)
  done := by
    intro X hP hw hK hc i pins s σ H E I hf ⟨x, l, st, e, le⟩ _
    subst hP hw hK
    obtain ⟨f0, f1, f2, f3, f4, f5⟩ := hf it (List.mem_singleton.mpr rfl)
    exact wpAny_pyNext_long_end (I.ok.hd hc) e le fun h' eb => ⟨rfl, I.turned (t' := s.toks) (fun b o hb e => eb b o hb e) f0 f1 f3 f4 f5⟩
  self := fun _ _ _ _ _ ⟨x, l, st, e, _⟩ h => wpAny_pyIter_longiter e h
def farLow (n : Int) : Prop := Builtin.Range.small 0 n 1 = false ∧ Builtin.Range.rangeSize 0 n 1 ≤ 0
def iRngW (ta : TA) : TI := fun σ H R => ta σ H fun vs H1 => ∃ j : Int, vs = [.int j] ∧ ((-(2 ^ 62) ≤ j ∧ j < 2 ^ 62) ∨ farLow j) ∧ R (Itr 0 j.toNat) H1
section
variable {X : Cx} {tg : Expr}
theorem pi_rangeW {a : Expr} {ta : TA} {p pos : Pos} (hg : Gl X "range") (hm : X.mg "range" = none) (ha : PA X [a] ta) (low : ∀ n, farLow n → n ≤ 0) (hs : starEach [a] X.env = [(false, eval a X.env)] := by rfl) : PI X tg (.Call (.Name "range" p) [a] [] pos) (iRngW ta) := by
  constructor
  intro pins s σ H R I h
  refine Call_ (ld_blt I hg hm boot_range (PyProof.Rows.callWith_type1 (thn (ha.run pos pins s σ H _ I h) fun us s1 ⟨vs, H1, I1, r1, j, e, d, q⟩ => ?_) hs rfl))
  subst e
  obtain ⟨u, rfl, t, rfl⟩ := vals1 r1
  refine call_range_1 ?_
  rcases d with ⟨q1, q2⟩ | fl
  · exact range_it I1 (by omega) (by omega) q1 q2 (by simpa using q)
  · have jl := low j fl
    refine wpAny_pyIter_longrange (IsRange.new ..) fl.1 ?_
    have I2 : L2.Inv X pins σ H1 { s1 with heap := s1.heap.push { cls := .type "range", data := .fields #[.int 0 s1.toks, .int j t, .int 1 (s1.toks + 1)] }, toks := s1.toks + 1 + 1 } := I1.kept fun b o e => Heap.get?_push_of_some _ e
    refine pi_one (tk := s1.toks + 1 + 1) I2 _ (turn_none _) ⟨_, _, _, Heap.get?_push_size _ rfl, fl.2⟩ ?_
    rw [show j.toNat = 0 by omega] at q
    exact q
end
section
variable {prog : Program} {w : World} {A : Around} {E : Value → Shared → Prop} {s : Shared} {K : PySem.W.Frag} {x C f : Addr} {ox : Obj} {od : Option Obj} {a : Value}
/-- a built-in type on the left that has no such operator of numbers -/
structure LeftT (K : PySem.W.Frag) (C : Addr) (nm T : String) : Prop where
  op : ∃ o p, PySem.W.findIn K (.type T) (PySem.dunder nm) = some o ∧ PySem.W.findIn K (.type T) (dunderR nm) = some p ∧ ((o.isSome && !isSeqSlot o) || (p.isSome && !isSeqSlot p)) = false
theorem ref_own {op : Operator} {T : String} {g : Addr} {Q : Value → Shared → Prop} (X : K.In s.heap) (I : PySem.W.InstAt s.heap x ox C od) (ty : PySem.W.Looks (model prog w) s.heap (typeOf a) (.type T)) (sf : PySem.W.selfFirst K C = true) (R : LeftT K C op.info.2 T)
    (has : PySem.W.findIn K (.ref C) (PySem.dunder op.info.2) = some (some (.ref g))) (at_ : PySem.W.findIn K (.ref C) (dunderR op.info.2) = some (some (.ref f))) (fn : PySem.W.isFn K (.ref f) = true)
    (h : wpAny (model prog w) A (call (.ref f) [.ref x, a]) (PySem.W.CmpBack Q) E s) : wpAny (model prog w) A (binaryOp op a (.ref x)) Q E s := by
  obtain ⟨cd, rest, h1, h2⟩ := PySem.W.ksp_first sf
  obtain ⟨⟨o1, o2, r1, r2, no⟩⟩ := R
  have go := PySem.W.ksp_try X I at_ fn h
  have k1 : PySem.W.Looks (model prog w) s.heap (fillsNumberSlot (.ref C) op.info.2) true := PySem.W.fills_K X h1 h2 has
  have k2 : PySem.W.Looks (model prog w) s.heap (fillsNumberSlot (.type T) op.info.2) false := no ▸ PySem.W.ksp_fillsT (M := model prog w) X r1 r2
  have k3 : PySem.W.Looks (model prog w) s.heap (typeOf (.ref x)) (.ref C) := I.type
  have ne : (Value.type T == Value.ref C) = false := Bool.eq_false_iff.mpr fun z => by cases beq_iff_eq.mp z
  clear h at_ has r1 r2
  obtain ⟨sy, nm, hi⟩ : ∃ sy nm, op.info = (sy, nm) := ⟨_, _, rfl⟩
  rw [hi] at go k1 k2
  dsimp only at go k1 k2
  obtain ⟨hp, gg, d, tt, os⟩ := s
  simp only [binaryOp, hi]
  refine wpAny_holding (wpAny_bind ?_)
  unfold binaryOp1
  refine wpAny_bind (ty.at (wpAny_bind (k3.at (wpAny_bind (k2.at ?_)))))
  simp only [ne, Bool.false_eq_true, if_false]
  ksp_lk
  refine wpAny_mono go (fun r s1 ⟨v, e, q⟩ => ?_) fun _ _ z => z
  subst e
  ksp_lk
  exact q
theorem int_no {dx : Addr} {i : Int} {t : Tok} (I : PySem.W.InstAt s.heap x (PySem.W.instObj C dx) C od) : wpAny (model prog w) A (tryMethod (.int i t) (PySem.dunder "mul") (.ref x)) (fun r s' => r = none ∧ s' = s) E s := by
  unfold tryMethod
  refine wpAny_bind (wpAny_callSpecial?_slot (name := PySem.dunder "mul") (typeIs_int s i t) F.slot_int_mul (wpAny_call_entry F.slot_int_mul (typeIs_int s i t) F.entry_int_mul ?_ (F.args_int_mul_2 _ _)))
  unfold Builtin.«int.__mul__» Builtin.Int.intBinary
  have hx := I.at_
  obtain ⟨hp, gg, d, tt, os⟩ := s
  repeat (first | (with_reducible refine wpAny_loadPart_at hx ?_) | (with_reducible refine wpAny_load hx ?_) | wp_step)
  exact ⟨_, rfl, wpAny_pure ⟨rfl, rfl⟩⟩
theorem ref_int {g dx : Addr} {i : Int} {t : Tok} {o1 o2 : Option Value} {Q : Value → Shared → Prop} (X : K.In s.heap) (I : PySem.W.InstAt s.heap x (PySem.W.instObj C dx) C od) (sf : PySem.W.selfFirst K C = true)
    (r1 : PySem.W.findIn K (.type "int") (PySem.dunder "mul") = some o1) (r2 : PySem.W.findIn K (.type "int") (dunderR "mul") = some o2) (sub : PySem.W.subIn K (.ref C) (.type "int") = some false)
    (has : PySem.W.findIn K (.ref C) (PySem.dunder "mul") = some (some (.ref g))) (at_ : PySem.W.findIn K (.ref C) (dunderR "mul") = some (some (.ref f))) (fn : PySem.W.isFn K (.ref f) = true)
    (h : wpAny (model prog w) A (call (.ref f) [.ref x, .int i t]) (PySem.W.CmpBack Q) E s) : wpAny (model prog w) A (binaryOp .Mult (.int i t) (.ref x)) Q E s := by
  obtain ⟨cd, rest, h1, h2⟩ := PySem.W.ksp_first sf
  have go := PySem.W.ksp_try X I at_ fn h
  have no := int_no (prog := prog) (w := w) (A := A) (E := E) (i := i) (t := t) I
  have k1 : PySem.W.Looks (model prog w) s.heap (fillsNumberSlot (.ref C) "mul") true := PySem.W.fills_K X h1 h2 has
  have k2 := PySem.W.ksp_fillsT (M := model prog w) (nm := "mul") (T := "int") X r1 r2
  have k3 : PySem.W.Looks (model prog w) s.heap (typeOf (.ref x)) (.ref C) := I.type
  have k4 : PySem.W.Looks (model prog w) s.heap (typeOf (.int i t)) (.type "int") := PySem.W.Looks.of_pure rfl
  have k5 : PySem.W.Looks (model prog w) s.heap (isSubtype (.ref C) (.type "int")) false := PySem.W.looks_subIn X sub
  have k6 : PySem.W.Looks (model prog w) s.heap (numberSlotInPython (.type "int") "mul") false := PySem.W.Looks.of_pure rfl
  have ne : (Value.type "int" == Value.ref C) = false := Bool.eq_false_iff.mpr fun z => by cases beq_iff_eq.mp z
  generalize ((o1.isSome && !isSeqSlot o1) || (o2.isSome && !isSeqSlot o2)) = lf at k2
  clear h at_ has r1 r2
  obtain ⟨hp, gg, d, tt, os⟩ := s
  simp only [binaryOp, Operator.info]
  refine wpAny_holding (wpAny_bind ?_)
  unfold binaryOp1
  refine wpAny_bind (k4.at (wpAny_bind (k3.at (wpAny_bind (k2.at ?_)))))
  simp only [ne, Bool.false_eq_true, if_false]
  cases lf with
  | false =>
    ksp_lk
    refine wpAny_mono go (fun r s1 ⟨v, e, q⟩ => ?_) fun _ _ z => z
    subst e
    ksp_lk
    exact q
  | true =>
    ksp_lk
    refine wpAny_mono no (fun r s1 ⟨e1, e2⟩ => ?_) fun _ _ z => z
    subst e1 e2
    ksp_lk
    refine wpAny_mono go (fun r s1 ⟨v, e, q⟩ => ?_) fun _ _ z => z
    subst e
    ksp_lk
    exact q
end
end Tx

namespace Tx
open PySem PySem.Spec PyProof.Rows L2
/-! ## Comprehensions of two clauses -/
def liftIo (K : PySem.W.Frag) (W : WX) (di : DTIo) : TI := fun σ H R => ∃ J ω ρ k x, Rw K J H ω ∧ Sl K J σ ρ ∧ (∀ xs P ω1 J1 H1 I, k xs P ω1 → Grow J H ω J1 H1 ω1 → Rw K J1 H1 ω1 → WalkP K J1 I xs P → R I H1) ∧ CovX K J H ω x (fun c d H => W c d σ H) ∧ di ρ ω k x
theorem DIo.pi {W : WX} {X : Cx} {K : PySem.W.Frag} {tg iter : Expr} {di : DTIo} (h : DIo W X K tg iter di) : PI X tg iter (liftIo K W di) := by
  obtain ⟨wi, p, k⟩ := h
  exact ⟨fun pins s σ H R I ⟨J, ω, ρ, kk, x, w, sl, c, cx, z⟩ => p.run pins s σ H R I (k σ H J ω ρ kk x R w sl c cx z)⟩
/-- the second clause's loop -/
def lcIn (gd1 : DTG) (te : DTE) (vs1 : List Nat) (ρ : DS) (acc : List PyData) (nx : List PyData → Wd → Prop) (xs : List PyData) (P : Wd → Prop) (ω : Wd) : Prop := ∃ Inv1 : Nat → List PyData → Wd → Prop, Inv1 0 acc ω ∧ (∀ j a ω2, Inv1 j a ω2 → P ω2) ∧
  (∀ j y a ω2, xs[j]? = some y → Inv1 j a ω2 → gd1 y (wipeD ρ vs1) fun ρ' => te ρ' ω2 (fun r ω3 => a.length < sizeLine ∧ Inv1 (j + 1) (a ++ [r]) ω3) X0) ∧ ∀ a ω2, Inv1 xs.length a ω2 → nx a ω2
def lcOut (gd : DTG) (di1 : DTIo) (gd1 : DTG) (te : DTE) (vs vs1 : List Nat) (ρ : DS) (q : DQ) (xs : List PyData) (P : Wd → Prop) (ω1 : Wd) : Prop := ∃ Inv : Nat → List PyData → Wd → Prop, Inv 0 [] ω1 ∧ (∀ i acc ω2, Inv i acc ω2 → P ω2) ∧
  (∀ i y acc ω2, xs[i]? = some y → Inv i acc ω2 → gd y (wipeD ρ vs) fun ρ' => di1 ρ' ω2 (lcIn gd1 te vs1 ρ' acc (fun a ω3 => Inv (i + 1) a ω3)) X0) ∧
  ∀ acc ω2, Inv xs.length acc ω2 → ∀ p, ω2 p = none → q (refD p) (updW ω2 p (.lst acc))
def dLc2 (di : DTIo) (gd : DTG) (di1 : DTIo) (gd1 : DTG) (te : DTE) (vs vs1 : List Nat) (ρ : DS) (ω : Wd) (q : DQ) (x : DXK) : Prop := di ρ ω (lcOut gd di1 gd1 te vs vs1 ρ q) x
section
variable {W : WX} {X : Cx} {K : PySem.W.Frag} {elt tg iter tg1 iter1 : Expr} {scope : Scope} {own : List (Str × Nat)} {pos : Pos} {is is1 vs1 : List Nat} {di di1 : DTIo} {gd gd1 : DTG} {te : DTE}
theorem lc2_run {wi : TI} (hi : ∀ σ H J ω ρ (k : List PyData → (Wd → Prop) → Wd → Prop) x (R : It → Hp → Prop), Rw K J H ω → Sl K J σ ρ → (∀ xs P ω1 J1 H1 I, k xs P ω1 → Grow J H ω J1 H1 ω1 → Rw K J1 H1 ω1 → WalkP K J1 I xs P → R I H1) →
    CovX K J H ω x (fun c d H => W c d σ H) → di ρ ω k x → wi σ H R) {vs : List Nat} (his : ∀ i ∈ is, i ∈ vs) (his1 : ∀ i ∈ is1, i ∈ vs1)
    {σ : L2.St} {H J : Hp} {ω : Wd} {ρ : DS} {q : DQ} {x : DXK} {Q : VK} (w : Rw K J H ω) (s : Sl K J σ ρ) (cq : CovQ K J H ω q Q) (cx : CovX K J H ω x (fun c d H => W c d σ H)) (z : dLc2 di gd di1 gd1 te vs vs1 ρ ω q x) :
    tLc2 wi (liftG K is gd) (liftT K W0 dYes) (liftIo K W0 di1) (liftG K is1 gd1) (liftT K W0 dYes) (liftE K W0 te) vs vs1 σ H Q := by
  refine hi σ H J ω ρ _ x _ w s (fun xs P ω1 J1 H1 I z1 g1 w1 wd => ?_) cx z
  intro D hD
  obtain ⟨Inv, i0, iP, step, fin⟩ := z1
  obtain ⟨G, Y, wk, hG, hY⟩ := wd
  have hjD : J1 D = none := w1.jh.free hD
  have s1 := s.mono g1.jj
  let St : (List PyData → Wd → Prop) → Hp → Prop := fun inv H' => ∃ J' ω' acc us, Grow J1 H1 ω1 J' H' ω' ∧ Rw K J' H' ω' ∧ H' D = some (.lst us) ∧ J' D = none ∧ Fr ω' D ∧ RpAll K J' us acc ∧ inv acc ω'
  refine ⟨fun i m H' => m = xs.length - i ∧ i ≤ xs.length ∧ St (Inv i) H', ⟨xs.length, by simp, Nat.zero_le _, J1, ω1, [], [], Grow.junk hD _, w1.junk hD _, upd_same, hjD, w1.free hD, .nil, i0⟩, ?_⟩
  rintro i m H2 ⟨rfl, hi, J2, ω2, acc, us, g2, w2, hD2, jD2, oD2, ra, inv⟩
  have hg := hG J2 H2 ω2 g2.jj w2 (iP _ _ _ inv)
  by_cases hge : xs.length ≤ i
  · obtain rfl : i = xs.length := by omega
    refine .inl ⟨wk.stops H2 hg, (cq.step g1) _ _ _ _ _ (fin acc ω2 inv D oD2.1) (g2.own2 hD) (w2.own2 jD2 oD2 hD2 ra) (.ref D)⟩
  have hlt : i < xs.length := by omega
  refine .inr ⟨wk.goes i H2 hlt hg, St (Inv (i + 1)), fun H' st => ⟨xs.length - (i + 1), by omega, rfl, hlt, st⟩, fun v H2' y => ?_⟩
  have y := wk.yields i H2 v H2' hlt hg y
  have go : ∀ (d : PyData) (J3 H3 : Hp), xs[i]? = some d → Grow J2 H2 ω2 J3 H3 ω2 → Rw K J3 H3 ω2 → Rp K J3 v d → liftG K is gd v (wipe σ vs) H3 fun σ2 H2 => wipe σ2 vs = wipe σ vs ∧ liftT K W0 dYes σ2 H2 fun b H3 =>
      if b = true then liftIo K W0 di1 σ2 H3 fun I1 H4 => ∃ W1 : Nat → Nat → Hp → Prop, (∃ m, W1 0 m H4) ∧ ∀ j k H, W1 j k H →
        (I1.stop j H ∧ St (Inv (i + 1)) H) ∨ (I1.go j H ∧ ∃ Nx1 : Hp → Prop, (∀ H', Nx1 H' → ∃ k', k' < k ∧ W1 (j + 1) k' H') ∧ ∀ x H', I1.yld j H x H' → liftG K is1 gd1 x (wipe σ2 vs1) H' fun σ3 H5 => wipe σ3 vs1 = wipe σ2 vs1 ∧ liftT K W0 dYes σ3 H5 fun b H6 =>
          if b = true then liftE K W0 te σ3 H6 fun y H7 => ∃ acc, H7 D = some (.lst acc) ∧ acc.length < sizeLine ∧ Nx1 (upd H7 D (.lst (acc ++ [y]))) else Nx1 H6)
      else St (Inv (i + 1)) H3 := by
    intro d J3 H3 e3 g3 w3 r3
    have hD3 := g3.keep D _ hD2 oD2
    have nD2 : H2 D ≠ none := by rw [hD2]; simp
    have jD3 := g3.frj D nD2 oD2 jD2
    have nD3 : H3 D ≠ none := by rw [hD3]; simp
    refine ⟨J3, ω2, wipeD ρ vs, d, _, w3, (s1.mono (g2.jj.trans g3.jj)).wipe vs, r3, fun ρ' σ' z4 s4 ew => ⟨(ew vs his).trans (wipe_wipe σ vs), ?_⟩, step i d acc ω2 e3 inv⟩
    refine ⟨J3, ω2, ρ', fun b ω' => b = true ∧ ω' = ω2, X0, w3, s4, fun b ω5 J5 H5 z5 g5 w5 => ?_, (fun _ _ _ _ _ _ z => False.elim z), ⟨rfl, rfl⟩⟩
    obtain ⟨rfl, rfl⟩ := z5
    have hD5 := g5.keep D _ hD3 oD2
    have jD5 := g5.frj D nD3 oD2 jD3
    have nD5 : H5 D ≠ none := by rw [hD5]; simp
    refine iteT ⟨J5, ω5, ρ', _, X0, w5, s4.mono g5.jj, fun xs1 P1 ω6 J6 H6 I1 z6 g6 w6 wd1 => ?_, (fun _ _ _ _ _ _ z => False.elim z), z4⟩
    obtain ⟨Inv1, i1, iP1, step1, fin1⟩ := z6
    obtain ⟨G1, Y1, wk1, hG1, hY1⟩ := wd1
    have hD6 := g6.keep D _ hD5 oD2
    have jD6 := g6.frj D nD5 oD2 jD5
    have oD6 := g6.frw D nD5 oD2
    have s6 := (s4.mono g5.jj).mono g6.jj
    let St1 : (List PyData → Wd → Prop) → Hp → Prop := fun inv H' => ∃ J' ω' acc us, Same J6 J' ∧ Grow J1 H1 ω1 J' H' ω' ∧ Rw K J' H' ω' ∧ H' D = some (.lst us) ∧ J' D = none ∧ Fr ω' D ∧ RpAll K J' us acc ∧ inv acc ω'
    have ga := ((g2.trans g3).trans g5).trans g6
    refine ⟨fun j m H' => m = xs1.length - j ∧ j ≤ xs1.length ∧ St1 (Inv1 j) H', ⟨xs1.length, by simp, Nat.zero_le _, J6, ω6, acc, us, Same.refl _, ga, w6, hD6, jD6, oD6, rpAll_mono ((g3.jj.trans g5.jj).trans g6.jj) _ _ ra, i1⟩, ?_⟩
    rintro j m H7 ⟨rfl, hj, J7, ω7, acc7, us7, h7, g7, w7, hD7, jD7, oD7, ra7, inv7⟩
    have hg1 := hG1 J7 H7 ω7 h7 w7 (iP1 _ _ _ inv7)
    by_cases hge1 : xs1.length ≤ j
    · obtain rfl : j = xs1.length := by omega
      exact .inl ⟨wk1.stops H7 hg1, J7, ω7, acc7, us7, g7, w7, hD7, jD7, oD7, ra7, fin1 _ _ inv7⟩
    have hl1 : j < xs1.length := by omega
    refine .inr ⟨wk1.goes j H7 hl1 hg1, St1 (Inv1 (j + 1)), fun H' st => ⟨xs1.length - (j + 1), by omega, rfl, hl1, st⟩, fun v1 H7' y1 => ?_⟩
    have y1 := wk1.yields j H7 v1 H7' hl1 hg1 y1
    have go1 : ∀ (d : PyData) (J8 H8 : Hp), xs1[j]? = some d → Grow J7 H7 ω7 J8 H8 ω7 → Rw K J8 H8 ω7 → Rp K J8 v1 d → liftG K is1 gd1 v1 (wipe σ' vs1) H8 fun σ3 H5 => wipe σ3 vs1 = wipe σ' vs1 ∧ liftT K W0 dYes σ3 H5 fun b H6 =>
        if b = true then liftE K W0 te σ3 H6 fun y H7 => ∃ acc, H7 D = some (.lst acc) ∧ acc.length < sizeLine ∧ St1 (Inv1 (j + 1)) (upd H7 D (.lst (acc ++ [y]))) else St1 (Inv1 (j + 1)) H6 := by
      intro d J8 H8 e8 g8 w8 r8
      have nD7 : H7 D ≠ none := by rw [hD7]; simp
      have hD8 := g8.keep D _ hD7 oD7
      have jD8 := g8.frj D nD7 oD7 jD7
      have nD8 : H8 D ≠ none := by rw [hD8]; simp
      refine ⟨J8, ω7, wipeD ρ' vs1, d, _, w8, ((s6.mono h7).mono g8.jj).wipe vs1, r8, fun ρ'' σ'' z9 s9 ew => ⟨(ew vs1 his1).trans (wipe_wipe σ' vs1), ?_⟩, step1 j d acc7 ω7 e8 inv7⟩
      refine ⟨J8, ω7, ρ'', fun b ω' => b = true ∧ ω' = ω7, X0, w8, s9, fun b ω9 J9 H9 z10 g9 w9 => ?_, (fun _ _ _ _ _ _ z => False.elim z), ⟨rfl, rfl⟩⟩
      obtain ⟨rfl, rfl⟩ := z10
      have hD9 := g9.keep D _ hD8 oD7
      have jD9 := g9.frj D nD8 oD7 jD8
      have nD9 : H9 D ≠ none := by rw [hD9]; simp
      refine iteT ⟨J9, ω9, ρ'', _, X0, w9, s9.mono g9.jj, fun r ω10 y J10 H10 z10 g10 w10 r10 => ?_, (fun _ _ _ _ _ _ z => False.elim z), z9⟩
      obtain ⟨hlen, z10⟩ := z10
      have hD10 := g10.keep D _ hD9 oD7
      have jD10 := g10.frj D nD9 oD7 jD9
      have oD10 := g10.frw D nD9 oD7
      have sm := (g8.jj.trans g9.jj).trans g10.jj
      refine ⟨us7, hD10, by rw [ra7.length]; exact hlen, J10, ω10, acc7 ++ [r], us7 ++ [y], h7.trans sm, (((g7.trans g8).trans g9).trans g10).loc hD _, w10.loc jD10 oD10 _, upd_same, jD10, oD10, RpAll.append (rpAll_mono sm _ _ ra7) (.one r10), z10⟩
    rcases hY1 j H7 v1 H7' J7 ω7 hl1 h7 w7 (iP1 _ _ _ inv7) y1 with ⟨rfl, d, e1, e2⟩ | ⟨T, us2, ds, rfl, hT, rfl, e1, e2⟩
    · exact go1 d J7 _ e1 Grow.refl w7 e2
    · exact go1 (.tuple ds) _ _ e2 (Grow.frz w7 hT _) (w7.frz hT _) (.tup (SqT.of upd_same) (rpAll_mono (same_new (w7.jh.free hT) _) _ _ e1))
  rcases hY i H2 v H2' J2 ω2 hlt g2.jj w2 (iP _ _ _ inv) y with ⟨rfl, d, e1, e2⟩ | ⟨T, us2, ds, rfl, hT, rfl, e1, e2⟩
  · exact go d J2 _ e1 Grow.refl w2 e2
  · exact go (.tuple ds) _ _ e2 (Grow.frz w2 hT _) (w2.frz hT _) (.tup (SqT.of upd_same) (rpAll_mono (same_new (w2.jh.free hT) _) _ _ e1))
theorem de_lc2 (hc : X.calm = true) (hN : X.N.Nodup) (hi : DIo W X K tg iter di) (ok : BlkOk X.N X.env.scope scope own) (hv : ∀ i ∈ vs1, i ∈ own.map (·.2))
    (hg : ∀ (s : Shared) (H : Hp) (C : Addr) (cl : List (Str × Addr)) (fp : List Addr), DG (X.blk s H scope (compEnvC scope cl C X.env) fp) K tg is gd)
    (hi1 : ∀ (s : Shared) (H : Hp) (C : Addr) (cl : List (Str × Addr)) (fp : List Addr), DIo W0 (X.blk s H scope (compEnvC scope cl C X.env) fp) K tg1 iter1 di1)
    (hg1 : ∀ (s : Shared) (H : Hp) (C : Addr) (cl : List (Str × Addr)) (fp : List Addr), DG (X.blk s H scope (compEnvC scope cl C X.env) fp) K tg1 is1 gd1)
    (he : ∀ (s : Shared) (H : Hp) (C : Addr) (cl : List (Str × Addr)) (fp : List Addr), DE W0 (X.blk s H scope (compEnvC scope cl C X.env) fp) K elt te)
    (his : ∀ i ∈ is, i ∈ own.map (·.2) := by decide) (his1 : ∀ i ∈ is1, i ∈ vs1 := by decide) (hs : ∀ x, foldedSetIterable iter X.env x = pure x := by intro _; rfl) (hs1 : ∀ env x, foldedSetIterable iter1 env x = pure x := by intro _ _; rfl) :
    DE W X K (.ListComp elt [⟨tg, iter, [], 0⟩, ⟨tg1, iter1, [], 0⟩] scope pos) (dLc2 di gd di1 gd1 te (own.map (·.2)) vs1) := by
  obtain ⟨wi, p, k⟩ := hi
  exact ⟨_, pe_lc2 hc hN p ok hv hg (fun s H C cl fp => (dts_nil (W := W0)).ps) (fun s H C cl fp => (hi1 s H C cl fp).pi) hg1 (fun s H C cl fp => (dts_nil (W := W0)).ps) (fun s H C cl fp => (he s H C cl fp).pe) hs hs1, fun σ H J ω ρ q x Q w s cq cx z => lc2_run k his his1 w s cq cx z⟩
end
end Tx

namespace Tx
open PySem PySem.Spec PyProof.Rows L2
/-! ## int * int and list * int; powers; an instance on the right; ranges -/
def mulAD : RD2 := fun x y ω Q => match rsv ω x, y with
  | .int i, .int j => CMul i j ∧ Q (.int (i * j))
  | .list xs, .int k => -(2 ^ 63) ≤ k ∧ k < 2 ^ 63 ∧ xs.length * k.toNat ≤ sizeLine ∧ Q (.list (List.replicate k.toNat xs).flatten)
  | _, _ => False
def rmR (C : Addr) (sp : DSp) : RM2 := fun dx dy ω q => (∃ i, dx = .int i) ∧ InsD C "__rmul__" ω dy ∧ sp [dy, dx] ω q X0
/-- what the fragment says of int on the left of a class that multiplies -/
structure LeftI (K : PySem.W.Frag) (C : Addr) : Prop where
  first : PySem.W.selfFirst K C = true
  op : ∃ o, PySem.W.findIn K (.type "int") (PySem.dunder "mul") = some o
  rop : ∃ o, PySem.W.findIn K (.type "int") (dunderR "mul") = some o
  sub : PySem.W.subIn K (.ref C) (.type "int") = some false
  has : ∃ g : Addr, PySem.W.findIn K (.ref C) (PySem.dunder "mul") = some (some (.ref g))
def diRangeW (ta : DTA) (ρ : DS) (ω : Wd) (k : List PyData → Wd → Prop) (x : DXK) : Prop := ta ρ ω (fun rs ω1 => match rs with
  | [.int n] => ((-(2 ^ 62) ≤ n ∧ n < 2 ^ 62) ∨ farLow n) ∧ k ((List.range n.toNat).map fun i => .int ((i : Nat) : Int)) ω1
  | _ => False) x
section
variable {X : Cx} {K : PySem.W.Frag}
theorem do_mulA (hK : X.K = K) : OpR X (binaryOp .Mult) (lift2 K mulAD) := by
  subst hK
  intro pins s σ H x y v u Q I rx ry ⟨J, ω, dx, dy, q, w, hx, hy, c, z⟩
  unfold mulAD at z
  split at z
  · rename_i i j ex
    obtain rfl := (rp_flat (ω := ω) hx).2.1 _ ex
    cases hy
    exact op_mul pins s σ H _ _ v u Q I rx ry ⟨i, j, rfl, rfl, z.1, c.now w z.2 (.int _)⟩
  · rename_i xs k ex
    obtain ⟨a, vs, rfl, ha, ra⟩ := rp_list w hx ex
    cases hy
    exact op_rep pins s σ H _ _ v u Q I rx ry ⟨a, k, vs, rfl, rfl, ha, z.1, z.2.1, by rw [ra.length]; exact z.2.2.1, fun p hp => c.newL w z.2.2.2 (ra.rep _) hp⟩
  · exact False.elim z
def notBD : RD2 := fun x y _ Q => ∃ a b, x = .bool a ∧ y = .bool b ∧ Q (.bool (!decide (a = b)))
theorem do_isnotB (hK : X.K = K) : OpR X (compareOp .IsNot) (lift2 K notBD) := by
  intro pins s σ H x y v u Q I rx ry ⟨J, ω, dx, dy, q, w, hx, hy, c, a, b, e1, e2, z⟩
  subst e1 e2
  cases hx
  cases hy
  exact op_isnot_bl pins s σ H _ _ v u Q I rx ry ⟨a, b, rfl, rfl, c.now w z (.bl _)⟩
theorem do_pow (hK : X.K = K) : OpR X (binaryOp .Pow) (lift2 K (intD CPow fun i j => .int (i ^ j.toNat))) := do_int op_pow hK (fun _ _ h => h) fun _ _ _ => .int _
theorem dm_rmul {C : Addr} {j k : Nat} {ps : List Str} {sp : DSp} (hK : X.K = K) (M : Mfn X.prog X.w X.K X.mg X.base CX0 j C "__rmul__" ps (spD K sp)) (c : Ct X.mg X.A k) (h : j ≤ k) (L : LeftI K C) (hn : dunderR "mul" = "__rmul__" := by rfl) : OpR X (binaryOp .Mult) (lift2M K (rmR C sp)) := by
  subst hK
  obtain ⟨f, fd, F, hm, hb⟩ := M
  intro pins s σ H x y v u Q I rx ry ⟨J, ω, dx, dy, q, w, r1, r2, cq, ⟨i, e⟩, i2, z⟩
  subst e
  cases r1
  obtain ⟨t, rfl⟩ := (show ∃ t, v = Value.int i t from rx)
  obtain ⟨b, d2, od2, rfl, rfl, J2⟩ := insD_at w I r2 ry i2
  have run := own_run F hb (c.r.mono h) c.g I.env0 I (.cons ry (.cons rx .nil)) w (.cons r2 (.cons (.int i) .nil)) cq z
  obtain ⟨o1, h1⟩ := L.op
  obtain ⟨o2, h2⟩ := L.rop
  obtain ⟨g, h3⟩ := L.has
  exact ref_int I.kIn J2 L.first h1 h2 L.sub h3 (by rw [hn]; exact hm.at_) hm.fn (thn run fun v' s' ⟨z', H', I', rz, qz⟩ => SlX.cmpback rz ⟨z', H', I', rz, qz⟩)
variable {W : WX} {tg : Expr} {tA : DTA}
theorem far_low {n : Int} (h : farLow n) : n ≤ 0 := by
  have := h.2
  rw [rangeSize_one] at this
  split at this <;> omega
theorem di_rangeW {a : Expr} {p pos : Pos} (hg : Gl X "range") (hm : X.mg "range" = none) (ha : DAs W X K [a] tA) (hs : starEach [a] X.env = [(false, eval a X.env)] := by rfl) : DI W X K tg (.Call (.Name "range" p) [a] [] pos) (diRangeW tA) := by
  obtain ⟨t, pp, k⟩ := ha
  refine ⟨_, pi_rangeW hg hm pp (fun n h => far_low h) hs, fun σ H J ω ρ kk x R w s c cx z => k σ H J ω ρ _ x _ w s (fun rs ω1 vs J1 H1 z1 g1 w1 rps => ?_) cx z⟩
  split at z1
  · cases rps with
    | cons r1 r2 =>
      cases r1
      cases r2
      refine ⟨_, rfl, z1.1, c _ _ _ _ _ z1.2 g1 w1 ?_⟩
      have := walkD_range (K := K) (J := J1) (lo := 0) (n := Int.toNat (by assumption))
      simpa using this
  · exact False.elim z1
theorem far_k10 : farLow (0 - 10 ^ 20) := by
  refine ⟨by decide +kernel, ?_⟩
  rw [rangeSize_one]
  decide +kernel
end
end Tx

namespace Tx
open PySem PySem.Spec PyProof.Rows L2
/-! ## o[i] by an own __getitem__ that may raise; o[i] = v by an own __setitem__ that may raise; list(x), a list of one's own -/
def GI (K : PySem.W.Frag) (C : Addr) : Prop := ∃ f : Addr, PySem.W.findIn K (.ref C) "__getitem__" = some (some (.ref f)) ∧ PySem.W.fnIn K f = true
def dIxX (C : Addr) (sp : DSp) (to ti : DTE) (ρ : DS) (ω : Wd) (q : DQ) (x : DXK) : Prop := to ρ ω (fun o ω1 => ti ρ ω1 (fun i ω2 => InsD C "__getitem__" ω2 o ∧ sp [o, i] ω2 q x) x) x
section
variable {W : WX} {X : Cx} {K : PySem.W.Frag} {o i : Expr} {to ti : DTE} {pos : Pos} {CX : CXT} {C : Addr} {j k : Nat} {ps : List Str} {sp : DSp}
theorem de_ixO (hK : X.K = K) (M : Mfn X.prog X.w X.K X.mg X.base CX j C "__getitem__" ps (spD K sp)) (gi : GI K C) (c : Ct X.mg X.A k) (h : j + 1 ≤ k) (px : PX CX X W) (ho : DE W X K o to) (hi : DE W X K i ti)
    (hsl : ∀ ov iv, subscripted i true ov iv = runValue (.builtin "lifetime.subscript" ⟨[ov, iv], []⟩)) : DE W X K (.Subscript o i pos) (dIxX C sp to ti) := by
  subst hK
  obtain ⟨f, fd, F, hm, hb⟩ := M
  obtain ⟨ro, po, ko⟩ := ho
  obtain ⟨ri, pi, ki⟩ := hi
  obtain ⟨g, g1, g2⟩ := gi
  obtain rfl : g = f := by
    have := hm.at_
    rw [g1] at this
    cases this
    rfl
  let rd : L2.St → V → V → Hp → VK → Prop := fun σ x y H Q => ∃ J ω dx dy q xk, Rw X.K J H ω ∧ Rp X.K J x dx ∧ Rp X.K J y dy ∧ CovQ X.K J H ω q Q ∧ CovX X.K J H ω xk (fun cl d H => W cl d σ H) ∧ InsD C "__getitem__" ω dx ∧ sp [dx, dy] ω q xk
  refine ⟨fun σ H Q => ro σ H fun x H1 => ri σ H1 fun y H2 => rd σ x y H2 Q, ⟨fun pins s σ H Q I hh => ?_⟩, fun σ H J ω ρ q x Q w s cq cx z => ko σ H J ω ρ _ x _ w s (fun r1 ω1 v1 J1 H1 z1 k1 w1 rp1 => ki σ H1 J1 ω1 ρ _ x _ w1 (s.mono k1.jj) (fun r2 ω2 v2 J2 H2 z2 k2 w2 rp2 => ?_) (cx.step k1) z1) cx z⟩
  · refine Subscript_ (binT po pi I hh fun v u s2 x y H2 I2 rx ry q => ?_)
    obtain ⟨J, ω, dx, dy, qq, xk, w, r1, r2, cq, cx, i1, z⟩ := q
    obtain ⟨a, d1, od, rfl, rfl, J1⟩ := insD_at w I2 r1 rx i1
    obtain ⟨mm, hF⟩ := I2.fr
    refine PySem.W.sub_K hF I2.ok.mod.kin J1 hm.at_ g2 hm.fn ?_ (hsl _ _)
    exact run_g F (c.r.mono h).in1 c.g hb I2.env0.in1 (px σ) I2 (.cons rx (.cons ry .nil)) ⟨J, ω, _, qq, xk, w, .cons r1 (.cons r2 .nil), cq, cx, z⟩
  · exact ⟨J2, ω2, r1, r2, q, x, w2, rp_mono k2.jj _ _ rp1, rp2, (cq.step k1).step k2, (cx.step k1).step k2, z2.1, z2.2⟩
end
abbrev RMSX := PyData → PyData → PyData → Wd → (Wd → Prop) → DXK → Prop
def liftStX (K : PySem.W.Frag) (E : XK) (rd : RMSX) : TSet := fun o i v H Q => ∃ J ω dO dI dV q x, Rw K J H ω ∧ Rp K J o dO ∧ Rp K J i dI ∧ Rp K J v dV ∧ CovW K J H ω q Q ∧ CovX K J H ω x E ∧ rd dO dI dV ω q x
def rsOwnX (C : Addr) (sp : DSp) : RMSX := fun dO dI dV ω q x => InsD C "__setitem__" ω dO ∧ sp [dO, dI, dV] ω (fun _ ω1 => q ω1) x
def dSetSX (to ti te : DTE) (rd : RMSX) (D : DEnds) (ρ : DS) (ω : Wd) : Prop := te ρ ω (fun v ω1 => to ρ ω1 (fun o ω2 => ti ρ ω2 (fun i ω3 => rd o i v ω3 (fun ω4 => D.nx ρ ω4) (xcOf D ρ)) (xcOf D ρ)) (xcOf D ρ)) (xcOf D ρ)
section
variable {E : XK} {X : Cx} {K : PySem.W.Frag} {e o i : Expr} {te to ti : DTE} {pos : Pos} {CX : CXT} {C : Addr} {j k : Nat} {ps : List Str} {sp : DSp}
theorem set_ownX (hK : X.K = K) (M : Mfn X.prog X.w X.K X.mg X.base CX j C "__setitem__" ps (spD K sp)) (c : Ct X.mg X.A k) (h : j ≤ k) (nq : PySem.W.noSeq K C = true) (px : PX CX X (fun cl d _ H => E cl d H)) : PSet X (liftStX K E (rsOwnX C sp)) := by
  subst hK
  obtain ⟨f, fd, F, hm, hb⟩ := M
  intro pins s σ H o i v ov iv u Q I ro ri rv ⟨J, ω, dO, dI, dV, q, x, w, r1, r2, r3, cq, cx, i1, z⟩
  obtain ⟨a, d1, od, rfl, rfl, J1⟩ := insD_at w I r1 ro i1
  have cq2 : CovQ X.K J H ω (fun _ ω1 => q ω1) (fun _ H' => Q H') := fun r ω' v' J' H' z g w' _ => cq _ _ _ z g w'
  have run := run_g (E := fun cl d H => E cl d H) F (c.r.mono h) c.g hb I.env0 (px σ) I (.cons ro (.cons ri (.cons rv .nil))) ⟨J, ω, _, _, x, w, .cons r1 (.cons r2 (.cons r3 .nil)), cq2, cx, z⟩
  obtain ⟨mm, hF⟩ := I.fr
  exact PySem.W.ksp_setItem hF I.ok.mod.kin J1 nq hm.at_ hm.fn (thn run fun v' s' ⟨z', H', I', rz, qz⟩ => ⟨H', I', qz⟩)
theorem ds_setSX {rd : RMSX} {pos2 : Pos} (ho : DE (fun cl d _ H => E cl d H) X K o to) (hi : DE (fun cl d _ H => E cl d H) X K i ti) (he : DE (fun cl d _ H => E cl d H) X K e te) (hset : PSet X (liftStX K E rd))
    (ha : ∀ v, assign (.Subscript o i pos2) X.env v = (do
      let ov ← holding [v] (eval o X.env)
      let iv ← holding [v, ov] (eval i X.env)
      standAt pos2
      holding [v, ov, iv] (setItem ov iv v)
      release [v, ov, iv] []) := by intro _; rfl)
    (hs : swapsWithSole [.Subscript o i pos2] e pos.line X.env = pure false := by rfl) (hw : swappedStores [.Subscript o i pos2] e X.env = pure none := by rfl) (h1 : (assignEach [.Subscript o i pos2] X.env).map (·.2) = [assign (.Subscript o i pos2) X.env] := by rfl) :
    DSt (fun cl d _ H => E cl d H) X K (.Assign [.Subscript o i pos2] e pos) (dSetSX to ti te rd) := by
  obtain ⟨ro, po, ko⟩ := ho
  obtain ⟨ri, pi, ki⟩ := hi
  obtain ⟨re, pe, ke⟩ := he
  refine ⟨_, ps_asg pe (pg_sub po pi hset ha) hs hw h1, fun D DD σ H J ω ρ w s cs z => ke σ H J ω ρ _ _ _ w s (fun r ω1 v J1 H1 z1 g1 w1 rp => ?_) (cs.x s) z⟩
  refine ko σ H1 J1 ω1 ρ _ _ _ w1 (s.mono g1.jj) (fun r2 ω2 v2 J2 H2 z2 g2 w2 rp2 => ?_) ((cs.x s).step g1) z1
  refine ki σ H2 J2 ω2 ρ _ _ _ w2 (s.mono (g1.trans g2).jj) (fun r3 ω3 v3 J3 H3 z3 g3 w3 rp3 => ?_) ((cs.x s).step (g1.trans g2)) z2
  refine ⟨J3, ω3, r2, r3, r, _, _, w3, rp_mono g3.jj _ _ rp2, rp3, rp_mono (g2.trans g3).jj _ _ rp, fun ω4 J4 H4 z4 g4 w4 => ?_, (cs.x s).step ((g1.trans g2).trans g3), z3⟩
  exact cs.nx _ _ _ _ _ z4 (((g1.trans g2).trans g3).trans g4) w4 (s.mono (((g1.trans g2).trans g3).trans g4).jj)
end
def rmListO : RM1 := fun ds ω q => ∃ d xs, ds = [d] ∧ rsv ω d = .list xs ∧ ∀ p, ω p = none → q (refD p) (updW ω p (.lst xs))
theorem dc_listO {X : Cx} {K : PySem.W.Frag} (hK : X.K = K) : CallR X (.type "list") (liftAM K rmListO) := by
  subst hK
  intro pins s σ H xs us Q I rel ⟨J, ω, ds, q, w, hx, c, d, ys, e1, e2, z⟩
  subst e1
  cases hx with
  | cons hx h0 =>
  cases h0
  obtain ⟨a, vs, rfl, ha, ra⟩ := rp_list w hx e2
  exact call_list_of pins s σ H _ us Q I rel ⟨a, vs, rfl, .inl (SqL.of ha), fun p hp => c _ _ _ _ _ (z p (w.free hp).1) (Grow.own rfl hp _) (w.own rfl hp ⟨_, upd_same, ra⟩) (.ref p)⟩
theorem gi_of {K : PySem.W.Frag} {C : Addr} {q : Str} {st : Stmt} (h : HasM K C "__getitem__" q st) : GI K C := by
  obtain ⟨f, fd, F, m⟩ := h
  obtain ⟨oc, od, kV, doc, pm, an, cdv, ct, osl, _, e, _⟩ := F.ex
  exact ⟨f, m.at_, by unfold PySem.W.fnIn; rw [e]⟩
end Tx

namespace Tx
open PySem PySem.Spec PyProof.Rows L2
/-! ## x in o by an own __contains__; x in a list; xs[::-1]; text.upper() -/
def rmIn (C : Addr) (sp : DSp) : RM2 := fun dx dy ω q => InsD C "__contains__" ω dy ∧ sp [dy, dx] ω (fun r ω1 => ∃ b, r = .bool b ∧ q (.bool b) ω1) X0
def rmNotIn (C : Addr) (sp : DSp) : RM2 := fun dx dy ω q => InsD C "__contains__" ω dy ∧ sp [dy, dx] ω (fun r ω1 => ∃ b, r = .bool b ∧ q (.bool (!b)) ω1) X0
def inD : RD2 := fun x y ω Q => ∃ ds, Full ω y (.list ds) ∧ SeqAt.shaped x = true ∧ SeqAt.shaped (.list ds) = true ∧ Q (.bool (ds.any fun z => PyData.eqv z x))
section
variable {X : Cx} {K : PySem.W.Frag} {C : Addr} {j k : Nat} {ps : List Str} {sp : DSp}
theorem dm_in (hK : X.K = K) (M : Mfn X.prog X.w X.K X.mg X.base CX0 j C "__contains__" ps (spD K sp)) (c : Ct X.mg X.A k) (h : j ≤ k) : OpR X (compareOp .In) (lift2M K (rmIn C sp)) := by
  subst hK
  obtain ⟨f, fd, F, hm, hb⟩ := M
  intro pins s σ H x y v u Q I rx ry ⟨J, ω, dx, dy, q, w, r1, r2, cq, i2, z⟩
  obtain ⟨b, d2, od2, rfl, rfl, J2⟩ := insD_at w I r2 ry i2
  have cq2 : CovQ X.K J H ω (fun r ω1 => ∃ b, r = .bool b ∧ q (.bool b) ω1) (fun v' H' => ∃ b, v' = .bl b ∧ Q (.bl b) H') := fun r ω' v' J' H' ⟨b, e, z⟩ g w' rp => by
    subst e
    cases rp
    exact ⟨b, rfl, cq _ _ _ _ _ z g w' (.bl _)⟩
  have run := own_run F hb (c.r.mono h) c.g I.env0 I (.cons ry (.cons rx .nil)) w (.cons r2 (.cons r1 .nil)) cq2 z
  obtain ⟨mm, hF⟩ := I.fr
  refine PySem.W.in_K hF I.ok.mod.kin J2 hm.at_ hm.fn (thn run fun v' s' ⟨z', H', I', rz, b', e, qz⟩ => ?_)
  subst e
  cases (show v' = Value.bool b' from rz)
  exact wpAny_truthy_bool ⟨.bl b', H', I', rfl, qz⟩
theorem dm_notin (hK : X.K = K) (M : Mfn X.prog X.w X.K X.mg X.base CX0 j C "__contains__" ps (spD K sp)) (c : Ct X.mg X.A k) (h : j ≤ k) : OpR X (compareOp .NotIn) (lift2M K (rmNotIn C sp)) := by
  subst hK
  obtain ⟨f, fd, F, hm, hb⟩ := M
  intro pins s σ H x y v u Q I rx ry ⟨J, ω, dx, dy, q, w, r1, r2, cq, i2, z⟩
  obtain ⟨b, d2, od2, rfl, rfl, J2⟩ := insD_at w I r2 ry i2
  have cq2 : CovQ X.K J H ω (fun r ω1 => ∃ b, r = .bool b ∧ q (.bool (!b)) ω1) (fun v' H' => ∃ b, v' = .bl b ∧ Q (.bl (!b)) H') := fun r ω' v' J' H' ⟨b, e, z⟩ g w' rp => by
    subst e
    cases rp
    exact ⟨b, rfl, cq _ _ _ _ _ z g w' (.bl _)⟩
  have run := own_run F hb (c.r.mono h) c.g I.env0 I (.cons ry (.cons rx .nil)) w (.cons r2 (.cons r1 .nil)) cq2 z
  obtain ⟨mm, hF⟩ := I.fr
  refine PySem.W.notIn_K hF I.ok.mod.kin J2 hm.at_ hm.fn (thn run fun v' s' ⟨z', H', I', rz, b', e, qz⟩ => ?_)
  subst e
  cases (show v' = Value.bool b' from rz)
  exact wpAny_truthy_bool ⟨.bl (!b'), H', I', rfl, qz⟩
theorem do_in (hK : X.K = K) (hu2 : X.A.units + 65 < cLine) : OpR X (compareOp .In) (lift2 K inD) := by
  subst hK
  intro pins s σ H x y v u Q I rx ry ⟨J, ω, dx, dy, q, w, hx, hy, c, ds, f2, s1, s2, z⟩
  exact op_inD hu2 pins s σ H _ _ v u Q I rx ry ⟨_, _, Full.dp (.inl rfl) w hx (shaped_lay s1), f2.dp w hy (shaped_lay s2), s1, s2, c.now w z (.bl _)⟩
end
theorem _root_.L2.Room.units65 {k : Nat} {A : Around} (r : Room k A) : A.units + 65 < cLine := by have := r.un; omega
def dRev (te : DTE) (ρ : DS) (ω : Wd) (q : DQ) (x : DXK) : Prop := te ρ ω (fun r ω1 => ∃ xs, rsv ω1 r = .list xs ∧ q (.list xs.reverse) ω1) x
def dUpper (te : DTE) (ρ : DS) (ω : Wd) (q : DQ) (x : DXK) : Prop := te ρ ω (fun r ω1 => ∃ z, r = .str z ∧ z.length ≤ 5592405 ∧ q (.str (Txt.upper z)) ω1) x
theorem RpAll.reverse {K : PySem.W.Frag} {J : Hp} : ∀ {ds : List PyData} {vs : List V}, RpAll K J vs ds → RpAll K J vs.reverse ds.reverse
  | [], _, h => by cases h; exact .nil
  | d :: ds, _, h => by
    cases h with
    | cons h1 h2 => rw [List.reverse_cons, List.reverse_cons]; exact (RpAll.reverse h2).append (.one h1)
section
variable {W : WX} {X : Cx} {K : PySem.W.Frag} {o e : Expr} {te to : DTE} {pos : Pos}
theorem de_rev {k : Nat} {p1 p2 p3 : Pos} (hK : X.K = K) (h : DE W X K e te) : DE W X K (.Subscript e (.Slice none none (some (.UnaryOp .USub (.Constant (.int 1) k p1) p2)) p3) pos) (dRev te) := by
  subst hK
  obtain ⟨t, p, k⟩ := h
  refine ⟨_, pe_revL p, fun σ H J ω ρ q x Q w s cq cx z => k σ H J ω ρ _ x _ w s (fun r ω1 v J1 H1 z1 g1 w1 rp => ?_) cx z⟩
  obtain ⟨xs, e1, z1⟩ := z1
  obtain ⟨a, vs, rfl, ha, ra⟩ := rp_list w1 rp e1
  exact ⟨a, vs, rfl, SqL.of ha, fun p hp => (cq.step g1).newL w1 z1 ra.reverse hp⟩
theorem de_upper {apos cpos : Pos} (hK : X.K = K) (ho : DE W X K o to) (hbase : attributeBase o "upper" X.env (eval o X.env) = eval o X.env := by rfl) (hline : (apos.endLine == cpos.line) = true := by rfl) :
    DE W X K (.Call (.Attribute o "upper" apos) [] [] cpos) (dUpper to) := by
  subst hK
  obtain ⟨t, p, k⟩ := ho
  refine ⟨_, pe_bm0 PySem.F.plainAttrs_str PySem.F.slot_str_upper PySem.F.type_str_upper mt_upper p hbase hline, fun σ H J ω ρ q x Q w s cq cx z => k σ H J ω ρ _ x _ w s (fun r ω1 v J1 H1 z1 g1 w1 rp => ?_) cx z⟩
  obtain ⟨z, rfl, hz, z1⟩ := z1
  cases rp
  exact ⟨rfl, z, rfl, rfl, hz, (cq.step g1).now w1 z1 (.str _)⟩
end
end Tx

namespace Tx
open PySem PySem.Spec PyProof.Rows L2
/-! ## a def f(a, *r) where no repr is under way; a class called by a local name; C.m(..) by a classmethod -/
structure FnV (P : Program) (w : World) (K : PySem.W.Frag) (mg : Str → Option Value) (base : Heap) (CX : CXT) (k : Nat) (f : Addr) (sp : Sp) : Prop where
  run : ∀ (A : Around) (out : List Env) (s : Shared) (H : Hp) (us : List Value) (vs : List V) (Q : VK) (E : XK), Room k A → A.guards = some [] → Env0 P w K mg base A out s H → Vals vs us → sp vs H Q E →
      codeAny (model P w) A (.call (.ref f) ⟨us, []⟩) (CR CX out P w H s Q E) s
theorem cx_new {P : Program} {w : World} : CXNew (L2.CX P w) := by
  intro outer s H h2 p rest E e s' kp hp hn ⟨a, B, H', cls, d, e1, fl, hok, ub, na, os, ag, z⟩
  have np : ∀ b o, s.heap.get? b = some o → b ≠ p := fun b o e z => absurd (Heap.lt_size e) (Nat.not_lt.mpr (by rw [z]; exact hp))
  refine ⟨a, B, H', cls, d, e1, fl, hok, ⟨fun b o q n f => ?_, fun b o q f => ?_, fun b o q n => ?_, fun b o q f => ?_, fun b xs q => ?_, fun b o xs q => ?_, fun b ps q => ?_⟩, na, os, ag, z⟩
  · exact ub.keep b o (kp b o q) (by rw [upd_ne (np b o q)]; exact n) f
  · exact ub.slot b o (kp b o q) f
  · exact ub.free b o (kp b o q) (by rw [upd_ne (np b o q)]; exact n)
  · exact ub.there b o (kp b o q) f
  · exact ub.tups b xs (by rw [upd_ne (fun z => by rw [z, hn] at q; cases q)]; exact q)
  · exact ub.frzs b o xs (by rw [upd_ne (fun z => by rw [z, hn] at q; cases q)]; exact q)
  · exact ub.tbls b ps (by rw [upd_ne (fun z => by rw [z, hn] at q; cases q)]; exact q)
section
variable {P : Program} {w : World} {K : PySem.W.Frag} {mg : Str → Option Value} {base : Heap} {CX : CXT} {k : Nat} {f : Addr} {fd : FuncData} {x qual : Str} {st : Stmt} {N : List Str} {pa pv : Str} {sp : Sp}
theorem env0_tup {A : Around} {out : List Env} {s : Shared} {H : Hp} {rest : List V} {ur : List Value} (e0 : Env0 P w K mg base A out s H) (rr : Vals rest ur) (hl : rest.length ≤ sizeLine) :
    Env0 P w K mg base A out { s with heap := s.heap.push ({ cls := .type "tuple", data := .seq ur.toArray } : Obj) } (upd H s.heap.objs.size (.tup rest)) := by
  have kp : ∀ b o, s.heap.get? b = some o → (s.heap.push ({ cls := .type "tuple", data := .seq ur.toArray } : Obj)).get? b = some o := fun b o e => Heap.get?_push_of_some _ e
  have new : ObjOk P w (upd H s.heap.objs.size (.tup rest)) (s.heap.push ({ cls := .type "tuple", data := .seq ur.toArray } : Obj)) s.heap.objs.size (.tup rest) := ⟨hl, ur, rr, ⟨_, Heap.get?_push_size _ rfl, rfl, _, rfl⟩⟩
  refine ⟨e0.frames, e0.mod, fun b o e => ⟨kp b o (e0.bs b o e).1, ?_⟩, ?_, Heap.FunFrames.of_keeps (fun b o e _ => ⟨o, kp b o e, rfl⟩) e0.funs, fun b hb => ?_, e0.hok.laid kp (Nat.le_refl _) new, e0.bare⟩
  · rw [upd_ne (Nat.ne_of_lt (Heap.lt_size (e0.bs b o e).1))]
    exact (e0.bs b o e).2
  · show base.objs.size ≤ (s.heap.push _).objs.size
    rw [Heap.size_push]
    exact Nat.le_succ_of_le e0.bsz
  · obtain ⟨_, o, ho, _⟩ := e0.funs.mem hb
    rw [upd_ne (Nat.ne_of_lt (Heap.lt_size ho))]
    exact e0.frf b hb
theorem okV (F : Fun K x qual st f fd) (S : FnScope N [pa, pv] (defScope st)) (hb : ∀ (u : Value) (rest : List Value), rest.length ≤ 5 → bindArgs fd ⟨u :: rest, []⟩ = (newTuple rest >>= fun t => pure [(pa, u), (pv, t)])) (hCX : CXNew CX)
    (body : ∀ (cv : Value) (A : Around) (out : List Env) (s : Shared) (H : Hp) (vs : List V) (Q : VK) (E : XK), Room k (A.deeper (envOfC qual (defScope st) s.heap.objs.size f cv)) → A.guards = some [] → sp vs H Q E →
      ∃ t, PSs (cxOf CX P w K mg base N qual (defScope st) f cv A out s H E) (defBody st) t ∧ t { nx := fun _ H' => Q .non H', rt := Q } (start N vs) H) :
    FnV P w K mg base CX (k + 1) f (fun vs H Q E => ∃ v rest, vs = v :: rest ∧ rest.length ≤ 5 ∧ ∀ p, H p = none → sp [v, .ref p] (upd H p (.tup rest)) Q E) := by
  obtain ⟨_, _, _, _, _, _, cv, _, _, rfl, at_f, code⟩ := F.ex
  refine ⟨fun A out s H us vs Q E room gd e0 rel ask => ?_⟩
  obtain ⟨v, rest, rfl, hl, ask⟩ := ask
  cases rel with
  | @cons _ u _ ur rv rr =>
  have sz : rest.length ≤ sizeLine := Nat.le_trans hl (by decide)
  have hlu : ur.length ≤ 5 := by rw [← rr.length]; exact hl
  have hn : H s.heap.objs.size = none := e0.hok.fresh (Nat.le_refl _)
  have inH : K.In s.heap := e0.mod.kin.keeps fun b o z => (e0.bs b o z).1
  have e2 := env0_tup e0 rr sz
  have kp : ∀ b o, s.heap.get? b = some o → (s.heap.push ({ cls := .type "tuple", data := .seq ur.toArray } : Obj)).get? b = some o := fun b o e => Heap.get?_push_of_some _ e
  have un : Un (frs out) [] H (upd H s.heap.objs.size (.tup rest)) s.heap (s.heap.push ({ cls := .type "tuple", data := .seq ur.toArray } : Obj)) := Un.laid kp (Nat.le_refl _) hn
  have free : (s.heap.push ({ cls := .type "tuple", data := .seq ur.toArray } : Obj)).NoLimit := e0.mod.nolimit.keeps fun b o z => (e2.bs b o z).1
  refine codeAny_call_function room.depth (inH _ _ at_f) rfl S.co S.gen rfl (PySem.W.codeRec_of inH code) ?_
  rw [hb u ur hlu]
  refine wpAny_bind (wpAny_newTuple (wpAny_pure ?_) (Nat.le_trans hlu (by decide)))
  refine wpAny_newFunctionEnv_cells (s := { s with heap := s.heap.push ({ cls := .type "tuple", data := .seq ur.toArray } : Obj) }) S.kind ?kinds ?entered
  case kinds =>
    intro y hz
    rcases S.par y.1 (List.of_mem_zip (l₁ := [pa, pv]) (l₂ := [u, Value.ref s.heap.objs.size]) hz).1 with q | q
    · exact .inl q
    · exact .inr ⟨q, PySem.W.cellsFrom_some _ _ _ (.inl q)⟩
  case entered =>
    intro env he s1 ic
    subst he
    obtain ⟨t, pss, rd⟩ := body cv A out { s with heap := s.heap.push ({ cls := .type "tuple", data := .seq ur.toArray } : Obj) } (upd H s.heap.objs.size (.tup rest)) [v, .ref s.heap.objs.size] Q E (room.deeper _) gd (ask _ hn)
    have r2 : Vals [v, V.ref s.heap.objs.size] [u, Value.ref s.heap.objs.size] := .cons rv (.cons rfl .nil)
    have I := inv_start (CX := CX) (E := E) S room.hd e2 rfl r2 ic
    refine ⟨free.keeps ic.toInCall.keep, codeAny_func (wpAny_mono (pss.run [] s1 (start N [v, .ref s.heap.objs.size]) _ _ I rd) ?_ fun e s2 z => ?_)⟩
    · intro fl s2 got
      cases fl with
      | next => obtain ⟨_, H2, J, q⟩ := got; exact ⟨.non, H2, J.os, J.bare, un.trans J.base, J.hok, rfl, q⟩
      | ret u => obtain ⟨v, _, H2, J, r, q⟩ := got; exact ⟨v, H2, J.os, J.bare, un.trans J.base, J.hok, r, q⟩
      | brk => obtain ⟨_, _, _, q⟩ := got; exact False.elim q
      | cont => obtain ⟨_, _, _, q⟩ := got; exact False.elim q
    · exact wpAny_mono z (fun _ s3 y => hCX out s H _ _ rest E e s3 kp (Nat.le_refl _) hn y) fun e' s3 y => hCX out s H _ _ rest E e' s3 kp (Nat.le_refl _) hn y
end
end Tx

namespace Tx
open PySem PySem.Spec PyProof.Rows L2
/-! ## C.m(..) by a classmethod with a star parameter; a class called by a local name -/
def spV (K : PySem.W.Frag) (sp : DSp) : Sp := fun vs H Q E => ∃ v rest, vs = v :: rest ∧ rest.length ≤ 5 ∧ ∀ p, H p = none → spD K sp [v, .ref p] (upd H p (.tup rest)) Q E
def Vfn (P : Program) (w : World) (K : PySem.W.Frag) (mg : Str → Option Value) (base : Heap) (CX : CXT) (k : Nat) (C : Addr) (m : Str) (sp : DSp) : Prop := ∃ mc p g, ClX.CRead K C mc ∧ ClX.CMet K C mc m p g ∧ FnV P w K mg base CX k g (spV K sp)
def HasV (K : PySem.W.Frag) (C : Addr) (m qual : Str) (st : Stmt) : Prop := ∃ mc p g fd, ClX.CRead K C mc ∧ ClX.CMet K C mc m p g ∧ Fun K m qual st g fd
def BindsV (x qual : Str) (st : Stmt) (pa pv : Str) : Prop := ∀ (kV doc pm : Value) (an : Option Addr) (cdv ct : Value) (u : Value) (rest : List Value), rest.length ≤ 5 →
  bindArgs (PySem.W.fnOf x qual (defArgs st) (defBody st) (defScope st) .none kV doc pm an cdv ct) ⟨u :: rest, []⟩ = (newTuple rest >>= fun t => pure [(pa, u), (pv, t)])
section
variable {P : Program} {w : World} {K : PySem.W.Frag} {mg : Str → Option Value} {base : Heap} {k : Nat} {C : Addr} {m qual : Str} {N : List Str} {pa pv : Str} {sp : DSp} {st : Stmt}
theorem vfnDX (h : HasV K C m qual st) (B : Bi mg) (S : FnScope N [pa, pv] (defScope st)) (bd : BindsV m qual st pa pv)
    (body : ∀ (f : Addr) (cv : Value) (A : Around) (out : List Env) (s : Shared) (H : Hp) (E : XK), Ct mg (A.deeper (envOfC qual (defScope st) s.heap.objs.size f cv)) k →
      ∃ td, DSs (fun cl d _ H => E cl d H) (cxOf (L2.CX P w) P w K mg base N qual (defScope st) f cv A out s H E) K (defBody st) td ∧ ∀ ts ω q xx, sp ts ω q xx → td (endsD q xx) (startD N ts) ω) :
    Vfn P w K mg base (L2.CX P w) (k + 1) C m sp := by
  obtain ⟨mc, p, g, fd, r, c, F⟩ := h
  refine ⟨mc, p, g, r, c, okV (k := k) F S ?_ cx_new ?_⟩
  · obtain ⟨_, _, kV, doc, pm, an, cdv, ct, _, rfl, _, _⟩ := F.ex
    exact fun u rest hl => bd kV doc pm an cdv ct u rest hl
  intro cv A out s H vs Q E room gd ask
  obtain ⟨J, ω, ts, q, xx, w, r, cq, cx, z⟩ := ask
  obtain ⟨td, ⟨t, p, kk⟩, hb⟩ := body g cv A out s H E ⟨B, room, gd⟩
  exact ⟨t, p, kk _ _ _ H J ω _ w (sl_start r) ⟨fun _ _ _ _ _ z g w _ => cq _ _ _ _ _ z g w .non, fun _ _ _ _ _ z _ _ _ => False.elim z, fun _ _ _ _ _ z _ _ _ => False.elim z, cq, fun C fs _ ω' d _ J' H' z g w _ x => cx C fs ω' d J' H' z g w x⟩ (hb ts ω q xx z)⟩
end
def dCM (C : Addr) (sp : DSp) (ta : DTA) (ρ : DS) (ω : Wd) (q : DQ) (x : DXK) : Prop := ta ρ ω (fun ts ω1 => ts.length ≤ 5 ∧ sp [refD C, .tuple ts] ω1 q x) x
def dMakeL (i : Nat) (C : Addr) (sp : DSp) (ta : DTA) (ρ : DS) (ω : Wd) (q : DQ) (x : DXK) : Prop := ρ[i]? = some (some (refD C)) ∧ dMake C sp ta ρ ω q x
section
variable {W : WX} {X : Cx} {K : PySem.W.Frag} {CX : CXT} {j k : Nat} {C : Addr} {m : Str} {sp : DSp} {o e : Expr} {es : List Expr} {tA : DTA} {t : TA} {apos pos p : Pos} {ps : List Str} {x : Str}
theorem pe_cmethG {pl : Sem Bool} {E : L2.St → XK} (he : PE X o (tC (.ref C))) (V : Vfn X.prog X.w X.K X.mg X.base CX k C m sp) (hr : Room k X.A) (gd : X.A.guards = some []) (hx : ∀ σ, PassesAt CX X σ (E σ)) (ha : PA X (e :: es) t)
    (hst : starEach (e :: es) X.env = (false, eval e X.env) :: starEach es X.env := by rfl) (hpl : (backTo pos (starEach es X.env)).any (·.1) = false := by rfl)
    (ht : eval (.Call (.Attribute o m apos) (e :: es) [] pos) X.env = (do
      let ov ← eval o X.env
      standAt apos.atName
      let (f, first) ← holding [ov] (getMethod ov m pl)
      callWith pos f first (backTo pos (starEach (e :: es) X.env)) (backToKw pos (keywordEach [] X.env))) := by rfl) :
    PE X (.Call (.Attribute o m apos) (e :: es) [] pos) (fun σ H Q => t σ H fun vs H2 => spV X.K sp (.ref C :: vs) H2 Q (E σ)) := by
  obtain ⟨mc, p, g, r, c, F⟩ := V
  refine ⟨fun pins s σ H Q I h => ?_⟩
  refine PySem.W.methodCall_KW (pl := pl) (thn (he.run pins s σ H (fun v H1 => v = .ref C ∧ t σ H1 fun vs H2 => spV X.K sp (.ref C :: vs) H2 Q (E σ)) I ⟨rfl, h⟩) fun u s1 ⟨x, H1, I1, rx, ex, q⟩ => ?_) ht
  subst ex
  obtain rfl : u = Value.ref C := rx
  refine ClX.getmethcm_ok I1 r c fun s2 I2 => ?_
  refine ClX.callwith_cm I2 (ClX.base_none I1 (Nat.le_refl _)) c.fi (thn (ha.run pos _ s2 σ H1 _ I2 q) fun us s3 ⟨vs, H2, I3, rv, q2⟩ => ⟨⟨ClX.pin_at I3, I3.kIn⟩, ?_⟩) hst hpl
  have zz : wpAny (model X.prog X.w) X.A (call (.ref s1.heap.objs.size) us) (EP X ((s1.heap.objs.size, PySem.W.methodObj (.ref g) (.ref C)) :: pins) σ Q) X.xe s3 := by
    refine wpAny_call (PySem.W.method_call (ClX.pin_at I3) (codeAny_mono (F.run X.A X.stack s3 H2 (.ref C :: us) (.ref C :: vs) Q (E σ) hr gd I3.env0 (.cons rfl rv) q2) ?_))
    intro r s4 got
    match r, got with
    | .ok (.ret u), got => exact I3.after got
    | .ok .next, got => exact False.elim got
    | .ok .brk, got => exact False.elim got
    | .ok .cont, got => exact False.elim got
    | .error er, got => exact hx σ _ H2 s3 er s4 I3 got
  exact thn zz fun _ _ y => ClX.unpinE y
theorem de_cmeth {pl : Sem Bool} (hK : X.K = K) (he : PE X o (tC (.ref C))) (V : Vfn X.prog X.w X.K X.mg X.base CX j C m sp) (c : Ct X.mg X.A k) (h : j ≤ k) (px : PX CX X W) (args : DAs W X K (e :: es) tA)
    (hst : starEach (e :: es) X.env = (false, eval e X.env) :: starEach es X.env := by rfl) (hpl : (backTo pos (starEach es X.env)).any (·.1) = false := by rfl)
    (ht : eval (.Call (.Attribute o m apos) (e :: es) [] pos) X.env = (do
      let ov ← eval o X.env
      standAt apos.atName
      let (f, first) ← holding [ov] (getMethod ov m pl)
      callWith pos f first (backTo pos (starEach (e :: es) X.env)) (backToKw pos (keywordEach [] X.env))) := by rfl) :
    DE W X K (.Call (.Attribute o m apos) (e :: es) [] pos) (dCM C sp tA) := by
  subst hK
  obtain ⟨t, pp, kk⟩ := args
  refine ⟨_, pe_cmethG (E := fun σ cl d H => W cl d σ H) he V (c.r.mono h) c.g px pp hst hpl ht, fun σ H J ω ρ q x Q w s cq cx z => kk σ H J ω ρ _ x _ w s (fun ts ω1 vs J1 H1 z1 g1 w1 rps => ?_) cx z⟩
  refine ⟨.ref C, vs, rfl, by rw [rps.length]; exact z1.1, fun p hp => ?_⟩
  have g2 := g1.trans (Grow.frz w1 hp (.tup vs))
  exact ⟨_, ω1, _, q, x, w1.frz hp _, .cons (.ref C) (.cons (.tup (SqT.of upd_same) (rpAll_mono (same_new (w1.jh.free hp) _) _ _ rps)) .nil), cq.step g2, cx.step g2, z1.2⟩
theorem pe_makeL {i : Nat} {y : Str} {sp : Sp} {E : L2.St → XK} (c : ClsD X.K X.mg y C) (M : Mfn X.prog X.w X.K X.mg X.base CX k C "__init__" ps sp) (hr : Room (k + 1) X.A) (gd : X.A.guards = some []) (hN : X.N[i]? = some x) (hv : Vis X.env.scope x) (hx : ∀ σ, PassesAt CX X σ (E σ)) (ha : PA X (e :: es) t)
    (hdb : (x == ("__debug__" : Str)) = false := by decide) (hcd : (x == ("__classdict__" : Str)) = false := by decide) (he : starEach (e :: es) X.env = (false, eval e X.env) :: starEach es X.env := by rfl) (hpl : (backTo pos (starEach es X.env)).any (·.1) = false := by rfl) :
    PE X (.Call (.Name x p) (e :: es) [] pos) (fun σ H Q => σ[i]? = some (some (.ref C)) ∧ tMakeS C sp E t σ H Q) := by
  obtain ⟨f, fd, F, hm, hb⟩ := M
  constructor
  intro pins s00 σ H00 Q I00 ⟨hs, h0⟩
  refine wpAny_Call_Name_kw (thn ((pe_var (pos := p) hN hv hdb hcd).run pins s00 σ H00 (fun v H1 => v = .ref C ∧ H1 = H00) I00 ⟨.ref C, hs, rfl, rfl⟩) fun u0 s0 ⟨v0, H0, I0, r0, q0⟩ => ?_)
  obtain ⟨rfl, rfl⟩ := q0
  cases r0
  refine PySem.W.callWith_K (h₀ := X.base) I0.ok.mod.kin c.kp (thn (ha.run pos pins s0 σ _ _ I0 h0) fun us s ⟨vs, H, I, r, h⟩ => ⟨I.kIn, ?_⟩) he hpl
  have hq := h (s.heap.objs.size + 1) s.heap.objs.size (I.hok.fresh (Nat.le_succ _)) (I.hok.fresh (Nat.le_refl _)) (Nat.ne_of_lt (Nat.lt_succ_self _))
  have I2 := Inv.made (C := C) I
  have r2 : Vals (V.ref (s.heap.objs.size + 1) :: vs) (Value.ref (s.heap.objs.size + 1) :: us) := .cons rfl r
  have hl : ((Value.ref (s.heap.objs.size + 1) :: us) ++ []).length = ps.length := by
    rw [List.append_nil, ← r2.length]
    exact F.len _ _ _ _ hq
  have b := hb _ (Value.ref (s.heap.objs.size + 1) :: us) I2.kIn hl
  rw [List.append_nil] at b
  refine wpAny_call (make_map (f := f) I.kIn c.mks hm.at_ (beq_iff_eq.mp hm.fn) (codeAny_mono (F.run _ X.stack _ _ ⟨Value.ref (s.heap.objs.size + 1) :: us, []⟩ (Value.ref (s.heap.objs.size + 1) :: us) _ _ (E σ) (hr.make C us []) gd
    (I2.env0.make C us []) b r2 hq) ?_))
  intro r s' got
  match r, got with
  | .ok (.ret u), got =>
    obtain ⟨v, H', I3, rv, ev, q3⟩ := I2.after got
    subst ev
    exact ⟨rv, ⟨V.ref (s.heap.objs.size + 1), H', I3, rfl, q3⟩⟩
  | .ok .next, got => exact False.elim got
  | .ok .brk, got => exact False.elim got
  | .ok .cont, got => exact False.elim got
  | .error er, got => exact hx σ pins _ _ er s' I2 got
theorem de_makeL {i : Nat} {y : Str} (hK : X.K = K) (cl : ClsD K X.mg y C) (M : Mfn X.prog X.w X.K X.mg X.base CX j C "__init__" ps (spD K sp)) (c : Ct X.mg X.A k) (h : j + 1 ≤ k) (hN : X.N[i]? = some x) (hv : Vis X.env.scope x) (px : PX CX X W) (args : DAs W X K (e :: es) tA)
    (hdb : (x == ("__debug__" : Str)) = false := by decide) (hcd : (x == ("__classdict__" : Str)) = false := by decide) (he : starEach (e :: es) X.env = (false, eval e X.env) :: starEach es X.env := by rfl) (hpl : (backTo pos (starEach es X.env)).any (·.1) = false := by rfl) :
    DE W X K (.Call (.Name x p) (e :: es) [] pos) (dMakeL i C sp tA) := by
  subst hK
  obtain ⟨t, pp, kk⟩ := args
  refine ⟨_, pe_makeL (E := fun σ cl d H => W cl d σ H) cl M (c.r.mono h) c.g hN hv px pp hdb hcd he hpl, fun σ H J ω ρ q x Q w s cq cx z => ?_⟩
  obtain ⟨v, e1, r1⟩ := s.2 i _ z.1
  obtain rfl := rp_ref r1
  refine ⟨e1, kk σ H J ω ρ _ x _ w s (fun ts ω1 vs J1 H1 z1 g1 w1 rps => ?_) cx z.2⟩
  intro a dx ha hd ne
  have w2 := w1.junk hd (.own a)
  have ha2 : upd H1 dx (.own a) a = none := by rw [upd_ne (Ne.symm ne)]; exact ha
  have w3 := w2.own (m := .ins C dx []) (o := .ins C dx []) rfl ha2 ⟨[], upd_same, .nil⟩
  have g3 : Grow J H ω J1 (upd (upd H1 dx (.own a)) a (.ins C dx [])) (updW ω1 a (.ins C dx [])) := (g1.trans (Grow.junk hd _)).trans (Grow.own rfl ha2 _)
  refine ⟨J1, _, _, _, x, w3, .cons (.ref a) rps, fun r ω' v J' H' z' g' w' rp => ?_, cx.step g3, z1 a dx (w1.free ha).1⟩
  obtain ⟨rfl, z'⟩ := z'
  cases rp
  exact ⟨rfl, (cq.step g3) _ _ _ _ _ z' g' w' (.ref a)⟩
end
end Tx

namespace Tx
open PySem PySem.Spec PyProof.Rows L2
/-! ## zip of a tuple and a list -/
def Itm (K : PySem.W.Frag) (a b : Addr) : It where
  go := fun i H => ∃ vs us v u, SqT K H a vs ∧ SqL K H b us ∧ vs[i]? = some v ∧ us[i]? = some u
  yld := fun i H r H' => ∃ T v u, r = .ref T ∧ H T = none ∧ H' = upd H T (.tup [v, u]) ∧ (∀ vs, SqT K H a vs → vs[i]? = some v) ∧ ∀ us, SqL K H b us → us[i]? = some u
  stop := fun i H => ∃ vs us, SqT K H a vs ∧ SqL K H b us ∧ vs.length = us.length ∧ i = vs.length
theorem turn_mix {P : Program} {w : World} {K : PySem.W.Frag} {elts : List Expr} {kk : Nat} {tpos : Pos} {a b z TI TO i1 i2 : Addr} (D : ZipSep2 z TI TO i1 i2 [i1, a] [i2, b]) (n1 : a ≠ i1) (n2 : b ≠ i2) :
    Turn P w K (.Tuple elts kk tpos) (Itm K a b) [z, TI, TO, i1, i2] z
      (fun i h => IsZip h z TI TO .none ∧ IsTupOf2 h TI (.ref i1) (.ref i2) ∧ (∃ p q, IsTupOf2 h TO p q) ∧ h.IsTupleIter i1 a i ∧ h.IsListIter i2 b i) := by
  have five : ∀ c, c ∈ [z, TI, TO, i1, i2] → c = z ∨ c = TI ∨ c = TO ∨ c = i1 ∨ c = i2 := fun c h => by simpa using h
  refine ⟨by simp, fun i h st c hc => ?_, fun i h h' st k => ?_, ?_, ?_, fun A i s Q E st h => wpAny_pyIter_zip st.1 h⟩
  · obtain ⟨g1, g2, ⟨p, q, g3⟩, ⟨o4, g4, _, d4⟩, ⟨o5, g5, _, d5⟩⟩ := st
    rcases five c hc with rfl | rfl | rfl | rfl | rfl
    · exact ⟨_, g1, fun v e => nomatch e⟩
    · exact ⟨_, g2, fun v e => nomatch e⟩
    · exact ⟨_, g3, fun v e => nomatch e⟩
    · exact ⟨o4, g4, fun v e => by rw [d4] at e; cases e⟩
    · exact ⟨o5, g5, fun v e => by rw [d5] at e; cases e⟩
  · obtain ⟨g1, g2, ⟨p, q, g3⟩, g4, g5⟩ := st
    exact ⟨k z (by simp) _ g1, k TI (by simp) _ g2, ⟨p, q, k TO (by simp) _ g3⟩, g4.at fun o e => k i1 (by simp) o e, g5.at fun o e => k i2 (by simp) o e⟩
  · rintro X rfl rfl rfl hc i pins s σ H E I hf ⟨g1, g2, ⟨p, q, g3⟩, g4, g5⟩ ⟨vs, us, v, u, q1, q2, hv, hu⟩
    obtain ⟨l1, r1, p1, _⟩ := I.tuple q1
    obtain ⟨l2, r2, p2, _⟩ := I.list q2
    obtain ⟨w1, e1, rv⟩ := r1.get hv
    obtain ⟨w2, e2, ru⟩ := r2.get hu
    have hzl : z < s.heap.objs.size := Heap.lt_size g1
    have m1 : i < l1.toArray.size := by simpa using (List.getElem?_eq_some_iff.mp e1).1
    have m2 : i < l2.toArray.size := by simpa using (List.getElem?_eq_some_iff.mp e2).1
    have hh : X.A.in1.handled = none := I.ok.hd hc
    refine wpAny_pyNext_zipD2_item D (Draws.tuple hh i1 a n1 l1.toArray) (Draws.list hh i2 b n2 l2.toArray) g1 g2 g3 ⟨g4, p1⟩ ⟨g5, p2.isList⟩ m1 m2 fun x1 x2 h' tk y1 y2 z' TO' s1 s2 hT hsz hk => ?_
    obtain rfl : x1 = w1 := by have y1' : l1[i]? = some x1 := by simpa using y1
                               rw [e1] at y1'; exact (Option.some.inj y1').symm
    obtain rfl : x2 = w2 := by have y2' : l2[i]? = some x2 := by simpa using y2
                               rw [e2] at y2'; exact (Option.some.inj y2').symm
    refine ⟨_, rfl, wpAny_letOwnedTupleGo_zip (s := { s with heap := h', toks := tk }) z' fun h'' z'' sb => ?_⟩
    have hT2 : h''.get? s.heap.objs.size = some { cls := .type "tuple", data := .seq #[x1, x2] } := (sb.2 _ (Nat.ne_of_gt hzl)).trans hT
    have new : ObjOk X.prog X.w (upd H s.heap.objs.size (.tup [v, u])) h'' s.heap.objs.size (.tup [v, u]) :=
      ⟨by show 2 ≤ sizeLine; decide, [x1, x2], .cons rv (.cons ru .nil), ⟨_, hT2, rfl, _, rfl⟩⟩
    have out : ∀ c o, c ∉ [z, TI, TO, i1, i2] → s.heap.get? c = some o → h''.get? c = some o := fun c o hb e =>
      (sb.2 c fun q' => hb (by simp [q'])).trans (hk c o (fun q' => hb (by simp [q'])) (fun q' => hb (by simp [q'])) (fun q' => hb (by simp [q'])) (fun q' => hb (by simp [q'])) e)
    have I1 : Inv X pins σ (upd H s.heap.objs.size (.tup [v, u])) { s with heap := h'', toks := tk } := I.turnedNew (t' := tk) (ch := [z, TI, TO, i1, i2]) out hf (Nat.le_refl _) new
    refine ⟨.ref s.heap.objs.size, _, I1, rfl, ⟨_, v, u, rfl, I.hok.fresh (Nat.le_refl _), rfl, fun l hl => by rw [I.tuple_inj hl q1]; exact hv, fun l hl => by rw [I.list_inj hl q2]; exact hu⟩, ⟨z'', ?_, ⟨x1, x2, ?_⟩, ?_, ?_⟩, fun c hcm => ?_⟩
    · exact (sb.2 _ D.TIz).trans (hk _ _ D.TIz D.TITO D.TIi1 D.TIi2 g2)
    · exact (sb.2 _ D.TOz).trans TO'
    · exact s1.1.at fun o e => (sb.2 _ (Ne.symm D.zi1)).trans e
    · exact s2.1.at fun o e => (sb.2 _ (Ne.symm D.zi2)).trans e
    · have hlt : c < s.heap.objs.size := by
        rcases five c hcm with rfl | rfl | rfl | rfl | rfl
        · exact hzl
        · exact Heap.lt_size g2
        · exact Heap.lt_size g3
        · obtain ⟨_, g, _⟩ := g4; exact Heap.lt_size g
        · obtain ⟨_, g, _⟩ := g5; exact Heap.lt_size g
      rw [upd_ne (Nat.ne_of_lt hlt)]
      exact (hf c hcm).1
  · rintro X rfl rfl rfl hc i pins s σ H E I hf ⟨g1, g2, ⟨p, q, g3⟩, g4, g5⟩ ⟨vs, us, q1, q2, hl, hi⟩
    obtain ⟨l1, r1, p1, _⟩ := I.tuple q1
    obtain ⟨l2, r2, p2, _⟩ := I.list q2
    have hh : X.A.in1.handled = none := I.ok.hd hc
    have k1 := r1.length
    have k2 := r2.length
    exact wpAny_pyNext_zipD2_end D (Draws.tuple hh i1 a n1 l1.toArray) (Draws.list hh i2 b n2 l2.toArray) g1 g2 g3 ⟨g4, p1⟩ ⟨g5, p2.isList⟩ (by simp; omega) (by simp; omega) (.inl (by simp; omega)) fun h' tk hk =>
      ⟨rfl, I.turnedL (t' := tk) (ch := [z, TI, TO, i1, i2]) (fun c o hb e => hk c o (fun q' => hb (by simp [q'])) (fun q' => hb (by simp [q'])) (fun q' => hb (by simp [q'])) (fun q' => hb (by simp [q'])) e) hf⟩
def iMix (K : PySem.W.Frag) (ta : TA) : TI := fun σ H R => ta σ H fun vs H1 => ∃ a b xs ys, vs = [.ref a, .ref b] ∧ SqT K H1 a xs ∧ SqL K H1 b ys ∧ R (Itm K a b) H1
theorem pi_mix {X : Cx} {e e2 : Expr} {ta : TA} {p pos tpos : Pos} {elts : List Expr} {kk : Nat} (hg : Gl X "zip") (hm : X.mg "zip" = none) (ha : PA X [e, e2] ta)
    (hs : starEach [e, e2] X.env = (false, eval e X.env) :: starEach [e2] X.env := by rfl) (hpl : (backTo pos (starEach [e2] X.env)).any (·.1) = false := by rfl) :
    PI X (.Tuple elts kk tpos) (.Call (.Name "zip" p) [e, e2] [] pos) (iMix X.K ta) := by
  refine ⟨fun pins s σ H R I h => Call_ (ld_blt I hg hm PyProof.Rows.boot_zip (PyProof.Rows.callWith_type1 (thn (ha.run pos pins s σ H _ I h) fun us s1 ⟨vs, H1, I1, rl, a, b, xs, ys, ex, q1, q2, q⟩ => ?_) hs hpl))⟩
  subst ex
  cases rl with
  | cons ra rl =>
  cases rl with
  | cons rb rl =>
  cases rl
  cases ra
  cases rb
  obtain ⟨l1, r1, p1, _⟩ := I1.tuple q1
  obtain ⟨l2, r2, p2, _⟩ := I1.list q2
  have la : a < s1.heap.objs.size := by obtain ⟨o, ho, _⟩ := id p1; exact Heap.lt_size ho
  have lb : b < s1.heap.objs.size := p2.lt
  refine zip_begins2 (begins_tuple a l1.toArray) (begins_list b l2.toArray) p1 p2.isList fun h' g1 g2 g3 g4 g5 hsz hk => wpAny_pyIter_zip g1 ?_
  have I2 : Inv X pins σ H1 { s1 with heap := h' } := I1.kept (t' := s1.toks) hk
  refine ⟨s1.heap.objs.size + 4, _, _, _, H1, rfl, I2, turn_mix (zip_sep2 (fp1 := [a]) (fp2 := [b]) (fun c hc => ?_) (fun c hc => ?_)) (Nat.ne_of_lt la) (Nat.ne_of_lt (Nat.lt_succ_of_lt lb)), ⟨g1, g2, ⟨_, _, g3⟩, ⟨_, g4, rfl, rfl⟩, ⟨_, g5, rfl, rfl⟩⟩, fun c hcm => ?_, q⟩
  · rw [List.mem_singleton.mp hc]; exact la
  · rw [List.mem_singleton.mp hc]; exact lb
  · have hle : s1.heap.objs.size ≤ c := by
      have e5 : c = s1.heap.objs.size + 4 ∨ c = s1.heap.objs.size + 2 ∨ c = s1.heap.objs.size + 3 ∨ c = s1.heap.objs.size ∨ c = s1.heap.objs.size + 1 := by simpa using hcm
      rcases e5 with rfl | rfl | rfl | rfl | rfl
      all_goals first | exact Nat.le_refl _ | exact Nat.le_add_right _ _
    exact I1.fpOk hle (I1.hok.fresh hle)
/-- .. over data -/
def zipD (xs ys : List PyData) : List PyData := List.zipWith (fun x y => .tuple [x, y]) xs ys
def diZipM (ta : DTA) (ρ : DS) (ω : Wd) (k : List PyData → Wd → Prop) (x : DXK) : Prop := ta ρ ω (fun rs ω1 => match rs with
  | [.tuple xs, .list ys] => xs.length = ys.length ∧ k (zipD xs ys) ω1
  | _ => False) x
theorem walk_mix {K : PySem.W.Frag} {a b : Addr} {xs ys : List V} (hn : xs.length = ys.length) : Walk (Itm K a b) xs.length (fun H => SqT K H a xs ∧ SqL K H b ys) (YPair (fun i => xs[i]?) (fun i => ys[i]?)) := by
  refine ⟨fun i _ hi q => ⟨xs, ys, xs[i], ys[i], q.1, q.2, by simp [hi], by simp [← hn, hi]⟩, fun _ q => ⟨xs, ys, q.1, q.2, hn, rfl⟩, fun i H v H' _ q y => ?_⟩
  obtain ⟨T, x, z, h1, h2, h3, h4, h5⟩ := y
  exact ⟨T, x, z, h1, h2, h3, h4 xs q.1, h5 ys q.2⟩
theorem walkD_mix {K : PySem.W.Frag} {J : Hp} {a b : Addr} {vs us : List V} {xs ys : List PyData} (h1 : SqT K J a vs) (h2 : J b = some (.lst us)) (r1 : RpAll K J vs xs) (r2 : RpAll K J us ys) (hl : xs.length = ys.length) : WalkD K J (Itm K a b) (zipD xs ys) := by
  have k1 := r1.length
  have k2 := r2.length
  refine ⟨fun H => SqT K H a vs ∧ SqL K H b us, _, by unfold zipD; rw [List.length_zipWith, ← hl, Nat.min_self, ← k1]; exact walk_mix (xs := vs) (ys := us) (by omega), fun J' H' s1 s2 => ⟨Same.sqT s2 (Same.sqT s1 h1), SqL.of (s2 _ _ (s1 _ _ h2))⟩, fun i H v H' hi y => .inr ?_⟩
  obtain ⟨T, x, y, e1, e2, e3, e4, e5⟩ := y
  obtain ⟨d1, f1, f2⟩ := r1.get e4
  obtain ⟨d2, g1, g2⟩ := r2.get e5
  exact ⟨T, _, [d1, d2], e1, e2, e3, .cons f2 (.cons g2 .nil), by unfold zipD; rw [List.getElem?_zipWith, f1, g1]⟩
theorem di_zipM {W : WX} {X : Cx} {K : PySem.W.Frag} {e e2 : Expr} {tA : DTA} {p pos tpos : Pos} {elts : List Expr} {kk : Nat} (hK : X.K = K) (hg : Gl X "zip") (hm : X.mg "zip" = none) (ha : DAs W X K [e, e2] tA)
    (hs : starEach [e, e2] X.env = (false, eval e X.env) :: starEach [e2] X.env := by rfl) (hpl : (backTo pos (starEach [e2] X.env)).any (·.1) = false := by rfl) :
    DI W X K (.Tuple elts kk tpos) (.Call (.Name "zip" p) [e, e2] [] pos) (diZipM tA) := by
  subst hK
  obtain ⟨t, pp, k⟩ := ha
  refine ⟨_, pi_mix hg hm pp hs hpl, fun σ H J ω ρ kk x R w s c cx z => k σ H J ω ρ _ x _ w s (fun rs ω1 vs J1 H1 z1 g1 w1 rps => ?_) cx z⟩
  split at z1
  · cases rps with
    | cons r1 r2 =>
    cases r2 with
    | cons r2 r3 =>
    cases r3
    cases r1 with
    | tup h1 a1 =>
    cases r2 with
    | lst h2 a2 => exact ⟨_, _, _, _, rfl, Same.sqT w1.jh h1, SqL.of (w1.jh _ _ h2), c _ _ _ _ _ z1.2 g1 w1 (walkD_mix h1 h2 a1 a2 z1.1)⟩
  · exact False.elim z1
end Tx

namespace Tx
open PySem PySem.Spec PyProof.Rows L2
/-! ## Shapes: codes, what they tell, what shapes have (plain) -/
inductive Nd where
  | any | never | nothing
  | text (lo : Int) (hi : Option Int)
  | lists (k : Nat) | nested (k : Nat) | not (k : Nat)
  | or (i j : Nat) | and (i j : Nat) | less (i j : Nat)
def hiD : Option Int → PyData
  | none => .none
  | some h => .int h
def ndD : Nd → PyData
  | .any => .tuple [.str "any"]
  | .never => .tuple [.str "never"]
  | .nothing => .tuple [.str "nothing"]
  | .text lo hi => .tuple [.str "text", .int lo, hiD hi]
  | .lists k => .tuple [.str "lists", .int (k : Int)]
  | .nested k => .tuple [.str "nested", .int (k : Int)]
  | .not k => .tuple [.str "not", .int (k : Int)]
  | .or i j => .tuple [.str "or", .int (i : Int), .int (j : Int)]
  | .and i j => .tuple [.str "and", .int (i : Int), .int (j : Int)]
  | .less i j => .tuple [.str "less", .int (i : Int), .int (j : Int)]
def codeD (c : List Nd) : PyData := .tuple (c.map ndD)
inductive So where
  | no | tx | ls
deriving DecidableEq
def soD : So → PyData
  | .no => .str "nothing"
  | .tx => .str "text"
  | .ls => .str "list"
/-- a node asks for truths ahead of it alone -/
def Nd.at (i : Nat) : Nd → Prop
  | .nested k => k < i
  | .not k => k < i
  | .or a b => a < i ∧ b < i
  | .and a b => a < i ∧ b < i
  | .less a b => a < i ∧ b < i
  | _ => True
def Nd.in (n : Nat) : Nd → Prop
  | .lists k => k < n
  | _ => True
def settle (so : So) (n : Nat) (told : List Bool) (fl : Bool) : Nd → Bool
  | .any => true
  | .never => false
  | .nothing => decide (so = .no)
  | .text lo hi => decide (so = .tx) && (decide (lo ≤ (n : Int)) && match hi with
    | none => true
    | some h => decide ((n : Int) ≤ h))
  | .lists _ => decide (so = .ls) && fl
  | .nested k => told.getD k false || told.getLastD false
  | .not k => !told.getD k false
  | .or i j => told.getD i false || told.getD j false
  | .and i j => told.getD i false && told.getD j false
  | .less i j => told.getD i false && !told.getD j false
def stl (so : So) (n : Nat) : List Nd → List Bool → List Bool → List Bool
  | nd :: c, f :: fs, told => stl so n c fs (told ++ [settle so n told f nd])
  | _, _, told => told
def fillB (rows : List (List Bool)) : Nd → Bool
  | .lists k => rows.all fun row => row.getD k false
  | _ => false
def truthsB (c : List Nd) (so : So) (n : Nat) (rows : List (List Bool)) : List Bool := stl so n c (c.map (fillB rows)) []
mutual
def vt (c : List Nd) : PyData → List Bool
  | .str x => truthsB c .tx x.length []
  | .list xs => truthsB c .ls xs.length (vtAll c xs)
  | _ => truthsB c .no 0 []
def vtAll (c : List Nd) : List PyData → List (List Bool)
  | [] => []
  | x :: xs => vt c x :: vtAll c xs
end
theorem vtAll_map (c : List Nd) : ∀ xs, vtAll c xs = xs.map (vt c)
  | [] => rfl
  | x :: xs => by simp only [vtAll, List.map_cons, vtAll_map c xs]
theorem stl_len {so : So} {n : Nat} : ∀ (c : List Nd) (f told : List Bool), f.length = c.length → (stl so n c f told).length = told.length + c.length
  | [], _, _, _ => by simp [stl]
  | nd :: c, [], _, h => by simp at h
  | nd :: c, f :: fs, told, h => by
    simp only [stl]
    rw [stl_len c fs _ (by simpa using h)]
    simp only [List.length_append, List.length_cons, List.length_nil]
    omega
theorem truthsB_len {c : List Nd} {so : So} {n : Nat} {rows : List (List Bool)} : (truthsB c so n rows).length = c.length := by
  unfold truthsB
  rw [stl_len _ _ _ (by simp)]
  simp
theorem vt_len (c : List Nd) (d : PyData) : (vt c d).length = c.length := by
  cases d <;> simp only [vt, truthsB_len]
theorem stl_app {so : So} {n : Nat} : ∀ (c e : List Nd) (f g told : List Bool), f.length = c.length → stl so n (c ++ e) (f ++ g) told = stl so n e g (stl so n c f told)
  | [], e, f, g, told, h => by
    have : f = [] := List.length_eq_zero_iff.mp (by simpa using h)
    simp [this, stl]
  | nd :: c, e, [], g, told, h => by simp at h
  | nd :: c, e, f :: fs, g, told, h => by
    simp only [List.cons_append, stl]
    exact stl_app c e fs g _ (by simpa using h)
/-- shapes, as they are made -/
inductive Shp where
  | every | never | nothing
  | texts (lo : Int) (hi : Option Int)
  | lists (s : Shp) | nested (s : Shp) | not (s : Shp)
  | or (a b : Shp) | and (a b : Shp) | less (a b : Shp)
def Shp.len : Shp → Nat
  | .lists s => s.len + 1
  | .nested s => s.len + 2
  | .not s => s.len + 1
  | .or a b => a.len + b.len + 1
  | .and a b => a.len + b.len + 1
  | .less a b => a.len + b.len + 1
  | _ => 1
theorem Shp.len_pos : ∀ s : Shp, 1 ≤ s.len := fun s => by cases s <;> simp only [Shp.len] <;> omega
def codeAt (o : Nat) : Shp → List Nd
  | .every => [.any]
  | .never => [.never]
  | .nothing => [.nothing]
  | .texts lo hi => [.text lo hi]
  | .lists s => codeAt o s ++ [.lists (o + s.len - 1)]
  | .nested s => codeAt o s ++ [.lists (o + s.len + 1), .nested (o + s.len - 1)]
  | .not s => codeAt o s ++ [.not (o + s.len - 1)]
  | .or a b => codeAt o a ++ codeAt (o + a.len) b ++ [.or (o + a.len - 1) (o + a.len + b.len - 1)]
  | .and a b => codeAt o a ++ codeAt (o + a.len) b ++ [.and (o + a.len - 1) (o + a.len + b.len - 1)]
  | .less a b => codeAt o a ++ codeAt (o + a.len) b ++ [.less (o + a.len - 1) (o + a.len + b.len - 1)]
theorem codeAt_len : ∀ (s : Shp) (o : Nat), (codeAt o s).length = s.len
  | .every, _ => rfl
  | .never, _ => rfl
  | .nothing, _ => rfl
  | .texts _ _, _ => rfl
  | .lists s, o => by simp [codeAt, Shp.len, codeAt_len s]
  | .nested s, o => by simp [codeAt, Shp.len, codeAt_len s]
  | .not s, o => by simp [codeAt, Shp.len, codeAt_len s]
  | .or a b, o => by simp [codeAt, Shp.len, codeAt_len a, codeAt_len b, Nat.add_assoc]
  | .and a b, o => by simp [codeAt, Shp.len, codeAt_len a, codeAt_len b, Nat.add_assoc]
  | .less a b, o => by simp [codeAt, Shp.len, codeAt_len a, codeAt_len b, Nat.add_assoc]
mutual
def nest (p : PyData → Bool) : PyData → Bool
  | .list xs => p (.list xs) || nestAll p xs
  | d => p d
def nestAll (p : PyData → Bool) : List PyData → Bool
  | [] => true
  | x :: xs => nest p x && nestAll p xs
end
theorem nestAll_all (p : PyData → Bool) : ∀ xs, nestAll p xs = xs.all (nest p)
  | [] => rfl
  | x :: xs => by simp only [nestAll, List.all_cons, nestAll_all p xs]
/-- whether a value is in a shape -/
def has : Shp → PyData → Bool
  | .every, _ => true
  | .never, _ => false
  | .nothing, d => isNn d
  | .texts lo hi, d => match d with
    | .str x => decide (lo ≤ (x.length : Int)) && match hi with
      | none => true
      | some h => decide ((x.length : Int) ≤ h)
    | _ => false
  | .lists s, d => match d with
    | .list xs => xs.all (has s)
    | _ => false
  | .nested s, d => nest (has s) d
  | .not s, d => !has s d
  | .or a b, d => has a d || has b d
  | .and a b, d => has a d && has b d
  | .less a b, d => has a d && !has b d
def liB (p : PyData → Bool) : PyData → Bool
  | .list xs => xs.all p
  | _ => false
def tr : Shp → PyData → List Bool
  | .lists s, d => tr s d ++ [has (.lists s) d]
  | .nested s, d => tr s d ++ [liB (has (.nested s)) d, has (.nested s) d]
  | .not s, d => tr s d ++ [has (.not s) d]
  | .or a b, d => tr a d ++ tr b d ++ [has (.or a b) d]
  | .and a b, d => tr a d ++ tr b d ++ [has (.and a b) d]
  | .less a b, d => tr a d ++ tr b d ++ [has (.less a b) d]
  | s, d => [has s d]
theorem tr_len : ∀ (s : Shp) (d : PyData), (tr s d).length = s.len
  | .every, _ => rfl
  | .never, _ => rfl
  | .nothing, _ => rfl
  | .texts _ _, _ => rfl
  | .lists s, d => by simp [tr, Shp.len, tr_len s]
  | .nested s, d => by simp [tr, Shp.len, tr_len s]
  | .not s, d => by simp [tr, Shp.len, tr_len s]
  | .or a b, d => by simp [tr, Shp.len, tr_len a, tr_len b, Nat.add_assoc]
  | .and a b, d => by simp [tr, Shp.len, tr_len a, tr_len b, Nat.add_assoc]
  | .less a b, d => by simp [tr, Shp.len, tr_len a, tr_len b, Nat.add_assoc]
theorem tr_last (s : Shp) (d : PyData) : (tr s d).getD (s.len - 1) false = has s d := by
  cases s with
  | every => rfl
  | never => rfl
  | nothing => rfl
  | texts _ _ => rfl
  | lists s => simp only [tr, Shp.len]; rw [List.getD_eq_getElem?_getD, List.getElem?_append_right (by rw [tr_len]; omega), tr_len]; simp
  | nested s => simp only [tr, Shp.len]; rw [List.getD_eq_getElem?_getD, List.getElem?_append_right (by rw [tr_len]; omega), tr_len, show s.len + 2 - 1 - s.len = 1 by omega]; rfl
  | not s => simp only [tr, Shp.len]; rw [List.getD_eq_getElem?_getD, List.getElem?_append_right (by rw [tr_len]; omega), tr_len]; simp
  | or a b => simp only [tr, Shp.len]; rw [List.getD_eq_getElem?_getD, List.getElem?_append_right (by rw [List.length_append, tr_len, tr_len]; omega), List.length_append, tr_len, tr_len]; simp
  | and a b => simp only [tr, Shp.len]; rw [List.getD_eq_getElem?_getD, List.getElem?_append_right (by rw [List.length_append, tr_len, tr_len]; omega), List.length_append, tr_len, tr_len]; simp
  | less a b => simp only [tr, Shp.len]; rw [List.getD_eq_getElem?_getD, List.getElem?_append_right (by rw [List.length_append, tr_len, tr_len]; omega), List.length_append, tr_len, tr_len]; simp
def sortB : PyData → So
  | .str _ => .tx
  | .list _ => .ls
  | _ => .no
def cnt : PyData → Nat
  | .str x => x.length
  | .list xs => xs.length
  | _ => 0
def its : PyData → List PyData
  | .list xs => xs
  | _ => []
theorem vt_eq (c : List Nd) (d : PyData) : vt c d = truthsB c (sortB d) (cnt d) ((its d).map (vt c)) := by
  cases d <;> simp only [vt, sortB, cnt, its, List.map_nil, vtAll_map]
theorem gd_left {a b : List Bool} {j : Nat} (h : j < a.length) : (a ++ b).getD j false = a.getD j false := by
  rw [List.getD_eq_getElem?_getD, List.getD_eq_getElem?_getD, List.getElem?_append_left h]
theorem gd_right {a b : List Bool} {k j : Nat} (h : k = a.length + j) : (a ++ b).getD k false = b.getD j false := by
  rw [List.getD_eq_getElem?_getD, List.getD_eq_getElem?_getD, List.getElem?_append_right (by omega), show k - a.length = j by omega]
theorem all_of {xs : List PyData} {p q : PyData → Bool} (h : ∀ x ∈ xs, p x = q x) : xs.all p = xs.all q := by
  induction xs with
  | nil => rfl
  | cons x xs ih => simp only [List.all_cons, h x List.mem_cons_self, ih fun y hy => h y (List.mem_cons_of_mem _ hy)]
theorem liB_eq (p : PyData → Bool) (v : PyData) : liB p v = (decide (sortB v = .ls) && (its v).all p) := by
  cases v <;> rfl
theorem has_lists (s : Shp) (v : PyData) : has (.lists s) v = liB (has s) v := by cases v <;> rfl
theorem has_nested (s : Shp) (v : PyData) : has (.nested s) v = (has s v || liB (has (.nested s)) v) := by
  show nest (has s) v = (has s v || liB (nest (has s)) v)
  cases v <;> simp only [nest, liB, Bool.or_false, nestAll_all]
theorem seg : ∀ (s : Shp) (o : Nat) (T : List Bool) (v : PyData) (f : PyData → List Bool), isVal v = true → T.length = o → (∀ x ∈ its v, ∀ j, j < s.len → (f x).getD (o + j) false = (tr s x).getD j false) →
    stl (sortB v) (cnt v) (codeAt o s) ((codeAt o s).map (fillB ((its v).map f))) T = T ++ tr s v
  | .every, o, T, v, f, hv, hT, hf => by simp [codeAt, stl, settle, tr, has]
  | .never, o, T, v, f, hv, hT, hf => by simp [codeAt, stl, settle, tr, has]
  | .nothing, o, T, v, f, hv, hT, hf => by
    simp only [codeAt, List.map_cons, List.map_nil, stl, settle, tr, has]
    cases v <;> first | rfl | simp [isVal] at hv
  | .texts lo hi, o, T, v, f, hv, hT, hf => by
    simp only [codeAt, List.map_cons, List.map_nil, stl, settle, tr, has]
    cases v <;> rfl
  | .lists s, o, T, v, f, hv, hT, hf => by
    have ps := s.len_pos
    have ih := seg s o T v f hv hT fun x hx j hj => by
      rw [hf x hx j (by simp only [Shp.len]; omega)]
      exact gd_left (by rw [tr_len]; exact hj)
    simp only [codeAt, List.map_append, List.map_cons, List.map_nil]
    rw [stl_app _ _ _ _ _ (by simp), ih]
    simp only [stl, settle, tr, fillB, List.all_map]
    rw [List.append_assoc, has_lists, liB_eq, all_of (q := has s) fun x hx => ?_]
    show (f x).getD (o + s.len - 1) false = _
    rw [show o + s.len - 1 = o + (s.len - 1) by omega, hf x hx _ (by simp only [Shp.len]; omega)]
    simp only [tr]
    rw [gd_left (by rw [tr_len]; omega), tr_last]
  | .nested s, o, T, v, f, hv, hT, hf => by
    have ps := s.len_pos
    have ih := seg s o T v f hv hT fun x hx j hj => by
      rw [hf x hx j (by simp only [Shp.len]; omega)]
      exact gd_left (by rw [tr_len]; exact hj)
    simp only [codeAt, List.map_append, List.map_cons, List.map_nil]
    rw [stl_app _ _ _ _ _ (by simp), ih]
    simp only [stl, settle, fillB, List.all_map]
    have e1 : ((its v).all ((fun row : List Bool => row.getD (o + s.len + 1) false) ∘ f)) = (its v).all (has (.nested s)) := all_of fun x hx => by
      show (f x).getD (o + s.len + 1) false = _
      rw [show o + s.len + 1 = o + (s.len + 1) by omega, hf x hx _ (by simp only [Shp.len]; omega)]
      exact tr_last (.nested s) x
    rw [e1, ← liB_eq]
    have e2 : (T ++ tr s v ++ [liB (has (.nested s)) v]).getD (o + s.len - 1) false = has s v := by
      rw [List.append_assoc, gd_right (j := s.len - 1) (by omega), gd_left (by rw [tr_len]; omega), tr_last]
    rw [e2, List.getLastD_concat, ← has_nested]
    simp only [tr, List.append_assoc, List.cons_append, List.nil_append]
  | .not s, o, T, v, f, hv, hT, hf => by
    have ps := s.len_pos
    have ih := seg s o T v f hv hT fun x hx j hj => by
      rw [hf x hx j (by simp only [Shp.len]; omega)]
      exact gd_left (by rw [tr_len]; exact hj)
    simp only [codeAt, List.map_append, List.map_cons, List.map_nil]
    rw [stl_app _ _ _ _ _ (by simp), ih]
    simp only [stl, settle, tr, has]
    rw [gd_right (j := s.len - 1) (by omega), tr_last, List.append_assoc]
  | .or a b, o, T, v, f, hv, hT, hf => by
    have pa := a.len_pos
    have pb := b.len_pos
    have ia := seg a o T v f hv hT fun x hx j hj => by
      rw [hf x hx j (by simp only [Shp.len]; omega)]
      simp only [tr]
      rw [List.append_assoc]
      exact gd_left (by rw [tr_len]; exact hj)
    have ib := seg b (o + a.len) (T ++ tr a v) v f hv (by rw [List.length_append, tr_len, hT]) fun x hx j hj => by
      rw [Nat.add_assoc, hf x hx (a.len + j) (by simp only [Shp.len]; omega)]
      simp only [tr]
      rw [List.append_assoc, gd_right (j := j) (by rw [tr_len]), gd_left (by rw [tr_len]; exact hj)]
    simp only [codeAt, List.map_append, List.map_cons, List.map_nil]
    rw [stl_app _ _ _ _ _ (by simp), stl_app _ _ _ _ _ (by simp), ia, ib]
    have g1 : (T ++ tr a v ++ tr b v).getD (o + a.len - 1) false = has a v := by rw [List.append_assoc, gd_right (j := a.len - 1) (by omega), gd_left (by rw [tr_len]; omega), tr_last]
    have g2 : (T ++ tr a v ++ tr b v).getD (o + a.len + b.len - 1) false = has b v := by rw [gd_right (j := b.len - 1) (by rw [List.length_append, tr_len]; omega), tr_last]
    simp only [stl, settle, g1, g2, tr, has]
    simp only [List.append_assoc]
  | .and a b, o, T, v, f, hv, hT, hf => by
    have pa := a.len_pos
    have pb := b.len_pos
    have ia := seg a o T v f hv hT fun x hx j hj => by
      rw [hf x hx j (by simp only [Shp.len]; omega)]
      simp only [tr]
      rw [List.append_assoc]
      exact gd_left (by rw [tr_len]; exact hj)
    have ib := seg b (o + a.len) (T ++ tr a v) v f hv (by rw [List.length_append, tr_len, hT]) fun x hx j hj => by
      rw [Nat.add_assoc, hf x hx (a.len + j) (by simp only [Shp.len]; omega)]
      simp only [tr]
      rw [List.append_assoc, gd_right (j := j) (by rw [tr_len]), gd_left (by rw [tr_len]; exact hj)]
    simp only [codeAt, List.map_append, List.map_cons, List.map_nil]
    rw [stl_app _ _ _ _ _ (by simp), stl_app _ _ _ _ _ (by simp), ia, ib]
    have g1 : (T ++ tr a v ++ tr b v).getD (o + a.len - 1) false = has a v := by rw [List.append_assoc, gd_right (j := a.len - 1) (by omega), gd_left (by rw [tr_len]; omega), tr_last]
    have g2 : (T ++ tr a v ++ tr b v).getD (o + a.len + b.len - 1) false = has b v := by rw [gd_right (j := b.len - 1) (by rw [List.length_append, tr_len]; omega), tr_last]
    simp only [stl, settle, g1, g2, tr, has]
    simp only [List.append_assoc]
  | .less a b, o, T, v, f, hv, hT, hf => by
    have pa := a.len_pos
    have pb := b.len_pos
    have ia := seg a o T v f hv hT fun x hx j hj => by
      rw [hf x hx j (by simp only [Shp.len]; omega)]
      simp only [tr]
      rw [List.append_assoc]
      exact gd_left (by rw [tr_len]; exact hj)
    have ib := seg b (o + a.len) (T ++ tr a v) v f hv (by rw [List.length_append, tr_len, hT]) fun x hx j hj => by
      rw [Nat.add_assoc, hf x hx (a.len + j) (by simp only [Shp.len]; omega)]
      simp only [tr]
      rw [List.append_assoc, gd_right (j := j) (by rw [tr_len]), gd_left (by rw [tr_len]; exact hj)]
    simp only [codeAt, List.map_append, List.map_cons, List.map_nil]
    rw [stl_app _ _ _ _ _ (by simp), stl_app _ _ _ _ _ (by simp), ia, ib]
    have g1 : (T ++ tr a v ++ tr b v).getD (o + a.len - 1) false = has a v := by rw [List.append_assoc, gd_right (j := a.len - 1) (by omega), gd_left (by rw [tr_len]; omega), tr_last]
    have g2 : (T ++ tr a v ++ tr b v).getD (o + a.len + b.len - 1) false = has b v := by rw [gd_right (j := b.len - 1) (by rw [List.length_append, tr_len]; omega), tr_last]
    simp only [stl, settle, g1, g2, tr, has]
    simp only [List.append_assoc]
mutual
theorem vt_tr (s : Shp) : ∀ v : PyData, isVal v = true → vt (codeAt 0 s) v = tr s v
  | .none, h => by
    rw [vt_eq]
    unfold truthsB
    simpa using seg s 0 [] .none (vt (codeAt 0 s)) h rfl (fun x hx => nomatch hx)
  | .str x, h => by
    rw [vt_eq]
    unfold truthsB
    simpa using seg s 0 [] (.str x) (vt (codeAt 0 s)) h rfl (fun x hx => nomatch hx)
  | .list xs, h => by
    rw [vt_eq]
    unfold truthsB
    have ih := vt_trAll s xs (by simpa only [isVal] using h)
    simpa using seg s 0 [] (.list xs) (vt (codeAt 0 s)) h rfl (fun x hx j _ => by rw [ih x hx, Nat.zero_add])
  | .bool _, h => by simp [isVal] at h
  | .int _, h => by simp [isVal] at h
  | .tuple _, h => by simp [isVal] at h
  | .dict _, h => by simp [isVal] at h
theorem vt_trAll (s : Shp) : ∀ xs : List PyData, isValAll xs = true → ∀ x ∈ xs, vt (codeAt 0 s) x = tr s x
  | [], _ => fun x hx => nomatch hx
  | y :: ys, h => fun x hx => by
    simp only [isValAll, Bool.and_eq_true] at h
    rcases List.mem_cons.mp hx with e | hx
    · rw [e]; exact vt_tr s y h.1
    · exact vt_trAll s ys h.2 x hx
end
end Tx

namespace Tx
open PySem PySem.Spec PyProof.Rows L2
/-! ## classmethods with plain parameters and defaults; stars in a tuple; a class's constant -/
def HasK (K : PySem.W.Frag) (C : Addr) (m qual : Str) (st : Stmt) (dvs : List V) : Prop := ∃ mc p g fd, ClX.CRead K C mc ∧ ClX.CMet K C mc m p g ∧ FunD K m qual (defArgs st) (defBody st) (defScope st) dvs [] g fd
def Kfn (P : Program) (w : World) (K : PySem.W.Frag) (mg : Str → Option Value) (base : Heap) (CX : CXT) (k : Nat) (C : Addr) (m : Str) (ps : List Str) (dv : List V) (sp : Sp) : Prop :=
  ∃ mc p g fd ds, ClX.CRead K C mc ∧ ClX.CMet K C mc m p g ∧ FnG P w K mg base CX k g fd ps sp ∧ Vals dv ds ∧ Binds K fd ps ds
section
variable {P : Program} {w : World} {K : PySem.W.Frag} {mg : Str → Option Value} {base : Heap} {CX : CXT} {k : Nat} {f : Addr} {fd : FuncData} {ps N : List Str} {sp : Sp} {x qual : Str} {st : Stmt} {dvs : List V} {kws : List (Str × V)}
theorem okGD (F : FunD K x qual (defArgs st) (defBody st) (defScope st) dvs kws f fd) (S : FnScope N ps (defScope st)) (len : ∀ vs H Q E, sp vs H Q E → vs.length = ps.length)
    (body : ∀ (cv : Value) (A : Around) (out : List Env) (s : Shared) (H : Hp) (vs : List V) (Q : VK) (E : XK),
      Room k (A.deeper (envOfC qual (defScope st) s.heap.objs.size f cv)) → A.guards = some [] → sp vs H Q E →
      ∃ t, PSs (cxOf CX P w K mg base N qual (defScope st) f cv A out s H E) (defBody st) t ∧ t { nx := fun _ H' => Q .non H', rt := Q } (start N vs) H) : FnG P w K mg base CX (k + 1) f fd ps sp := by
  obtain ⟨_, _, _, _, _, _, _, cv, _, _, rfl, at_f, code, _, _⟩ := F.ex
  refine ⟨len, fun A out s H ar us vs Q E room gd e0 bd rel ask => ?_⟩
  have inH : K.In s.heap := e0.mod.kin.keeps fun b o z => (e0.bs b o z).1
  have free : s.heap.NoLimit := e0.mod.nolimit.keeps fun b o z => (e0.bs b o z).1
  refine codeAny_call_function room.depth (inH _ _ at_f) rfl S.co S.gen rfl (PySem.W.codeRec_of inH code) (bd _ _ _ _ ?_)
  refine wpAny_newFunctionEnv_cells S.kind ?kinds ?entered
  case kinds =>
    rintro ⟨nm, val⟩ hz
    cases S.par nm (List.of_mem_zip hz).1 with
    | inl q => exact .inl q
    | inr q => exact .inr ⟨q, PySem.W.cellsFrom_some _ _ _ (.inl q)⟩
  case entered =>
    rintro env rfl s1 ic
    obtain ⟨t, pss, rd⟩ := body cv A out s H vs Q E (room.deeper _) gd ask
    have I := inv_start (CX := CX) (E := E) S room.hd e0 (len _ _ _ _ ask) rel ic
    refine ⟨free.keeps ic.toInCall.keep, codeAny_func (wpAny_mono (pss.run [] s1 (start N vs) H _ I rd) ?_ fun _ _ z => z)⟩
    intro fl s2 got
    cases fl with
    | next => obtain ⟨_, H2, J, q⟩ := got; exact ⟨.non, H2, J.os, J.bare, J.base, J.hok, rfl, q⟩
    | ret u => obtain ⟨v, _, H2, J, r, q⟩ := got; exact ⟨v, H2, J.os, J.bare, J.base, J.hok, r, q⟩
    | brk => obtain ⟨_, _, _, q⟩ := got; exact False.elim q
    | cont => obtain ⟨_, _, _, q⟩ := got; exact False.elim q
end
section
variable {P : Program} {w : World} {K : PySem.W.Frag} {mg : Str → Option Value} {base : Heap} {k : Nat} {C : Addr} {m qual : Str} {ps N : List Str} {sp : DSp} {st : Stmt} {dvs dv : List V}
theorem kfnD (h : HasK K C m qual st dvs) (B : Bi mg) (S : FnScope N ps (defScope st)) (bd : ∀ g fd, FunD K m qual (defArgs st) (defBody st) (defScope st) dvs [] g fd → ∃ ds, Vals dv ds ∧ Binds K fd ps ds) (len : ∀ ts ω q xx, sp ts ω q xx → ts.length = ps.length)
    (body : ∀ (f : Addr) (cv : Value) (A : Around) (out : List Env) (s : Shared) (H : Hp) (E : XK), Ct mg (A.deeper (envOfC qual (defScope st) s.heap.objs.size f cv)) k →
      ∃ td, DSs W0 (cxOf CX0 P w K mg base N qual (defScope st) f cv A out s H E).nox K (defBody st) td ∧ ∀ ts ω q xx, sp ts ω q xx → td (endsD q X0) (startD N ts) ω) :
    Kfn P w K mg base CX0 (k + 1) C m ps dv (spD K sp) := by
  obtain ⟨mc, p, f, fd, r, c, F⟩ := h
  obtain ⟨ds, hv, hb⟩ := bd f fd F
  refine ⟨mc, p, f, fd, ds, r, c, okGD F S (fun vs H Q E z => ?_) ?_, hv, hb⟩
  · obtain ⟨J, ω, ts, q, xx, w, r, _, _, z⟩ := z
    rw [r.length]
    exact len _ _ _ _ z
  intro cv A out s H vs Q E room gd ask
  obtain ⟨J, ω, ts, q, xx, w, r, cq, cx, z⟩ := ask
  obtain ⟨td, ⟨t, p, kk⟩, hb⟩ := body f cv A out s H E ⟨B, room, gd⟩
  exact ⟨t, p.nox, kk _ _ _ H J ω _ w (sl_start r) ⟨fun _ _ _ _ _ z g w _ => cq _ _ _ _ _ z g w .non, fun _ _ _ _ _ z _ _ _ => False.elim z, fun _ _ _ _ _ z _ _ _ => False.elim z, cq, fun _ _ _ _ _ _ _ _ z _ _ _ _ => False.elim z⟩ (hb ts ω q xx z)⟩
/-- no defaults -/
theorem bd0 (bd : BindsByQ m qual st ps) (g : Addr) (fd : FuncData) (F : FunD K m qual (defArgs st) (defBody st) (defScope st) [] [] g fd) : ∃ ds, Vals [] ds ∧ Binds K fd ps ds := by
  obtain ⟨oc, od, dV, kV, doc, pm, an, cdv, ct, osl, rfl, lk, hcd, hD, _⟩ := F.ex
  rcases hD with ⟨_, rfl⟩ | ⟨e, _⟩
  · exact ⟨[], .nil, Binds.all fun us hl => bd kV doc pm an cdv ct us hl⟩
  · exact absurd rfl e
end
section
variable {X : Cx} {CX : CXT} {k : Nat} {C : Addr} {ps : List Str} {sp : Sp} {dv : List V} {E : L2.St → XK} {m : Str} {pos apos : Pos} {e o : Expr} {es : List Expr} {t : TA}
theorem run_k {pins : List (Addr × Obj)} {σ : L2.St} {H : Hp} {s : Shared} {q g : Addr} {fd : FuncData} {ds : List Value} {Q : VK} {us : List Value} {vs : List V} (F : FnG X.prog X.w X.K X.mg X.base CX k g fd ps sp) (hr : Room k X.A) (gd : X.A.guards = some []) (dvr : Vals dv ds) (hb : Binds X.K fd ps ds) (hx : ∀ σ, PassesAt CX X σ (E σ))
    (I : Inv X ((q, PySem.W.methodObj (.ref g) (.ref C)) :: pins) σ H s) (r : Vals vs us) (h : sp (.ref C :: vs ++ dv) H Q (E σ)) : wpAny (model X.prog X.w) X.A (call (.ref q) us) (EP X pins σ Q) X.xe s := by
  have r2 : Vals (.ref C :: vs ++ dv) (.ref C :: us ++ ds) := .cons rfl (r.append dvr)
  have hl := F.len _ _ _ _ h
  rw [r2.length] at hl
  have zz : wpAny (model X.prog X.w) X.A (call (.ref q) us) (EP X ((q, PySem.W.methodObj (.ref g) (.ref C)) :: pins) σ Q) X.xe s := by
    refine wpAny_call (PySem.W.method_call (ClX.pin_at I) (codeAny_mono (F.run X.A X.stack s H ⟨.ref C :: us, []⟩ _ _ Q (E σ) hr gd I.env0 (hb s (.ref C :: us) I.kIn hl) r2 h) ?_))
    intro r s4 got
    match r, got with
    | .ok (.ret u), got => exact I.after got
    | .ok .next, got => exact False.elim got
    | .ok .brk, got => exact False.elim got
    | .ok .cont, got => exact False.elim got
    | .error er, got => exact hx σ _ H s er s4 I got
  exact thn zz fun _ _ y => ClX.unpinE y
theorem pe_kfn {pl : Sem Bool} (he : PE X o (tC (.ref C))) (M : Kfn X.prog X.w X.K X.mg X.base CX k C m ps dv sp) (hr : Room k X.A) (gd : X.A.guards = some []) (hx : ∀ σ, PassesAt CX X σ (E σ)) (ha : PA X (e :: es) t)
    (hst : starEach (e :: es) X.env = (false, eval e X.env) :: starEach es X.env := by rfl) (hpl : (backTo pos (starEach es X.env)).any (·.1) = false := by rfl)
    (ht : eval (.Call (.Attribute o m apos) (e :: es) [] pos) X.env = (do
      let ov ← eval o X.env
      standAt apos.atName
      let (f, first) ← holding [ov] (getMethod ov m pl)
      callWith pos f first (backTo pos (starEach (e :: es) X.env)) (backToKw pos (keywordEach [] X.env))) := by rfl) :
    PE X (.Call (.Attribute o m apos) (e :: es) [] pos) (fun σ H Q => t σ H fun vs H2 => sp (.ref C :: vs ++ dv) H2 Q (E σ)) := by
  obtain ⟨mc, p, g, fd, ds, r, c, F, dvr, hb⟩ := M
  refine ⟨fun pins s σ H Q I h => PySem.W.methodCall_KW (pl := pl) (thn (he.run pins s σ H (fun v H1 => v = .ref C ∧ t σ H1 fun vs H2 => sp (.ref C :: vs ++ dv) H2 Q (E σ)) I ⟨rfl, h⟩) fun u s1 ⟨x, H1, I1, rx, ex, q⟩ => ?_) ht⟩
  subst ex
  obtain rfl : u = Value.ref C := rx
  refine ClX.getmethcm_ok I1 r c fun s2 I2 => ?_
  exact ClX.callwith_cm I2 (ClX.base_none I1 (Nat.le_refl _)) c.fi (thn (ha.run pos _ s2 σ H1 _ I2 q) fun us s3 ⟨vs, H2, I3, rv, q2⟩ => ⟨⟨ClX.pin_at I3, I3.kIn⟩, run_k F hr gd dvr hb hx I3 rv q2⟩) hst hpl
theorem pe_kfn0 {pl : Sem Bool} (he : PE X o (tC (.ref C))) (M : Kfn X.prog X.w X.K X.mg X.base CX k C m ps dv sp) (hr : Room k X.A) (gd : X.A.guards = some []) (hx : ∀ σ, PassesAt CX X σ (E σ))
    (ht : eval (.Call (.Attribute o m apos) [] [] pos) X.env = (do
      let ov ← eval o X.env
      standAt apos.atName
      let (f, first) ← holding [ov] (getMethod ov m pl)
      callWith pos f first (backTo pos (starEach [] X.env)) (backToKw pos (keywordEach [] X.env))) := by rfl) :
    PE X (.Call (.Attribute o m apos) [] [] pos) (fun σ H Q => sp (.ref C :: dv) H Q (E σ)) := by
  obtain ⟨mc, p, g, fd, ds, r, c, F, dvr, hb⟩ := M
  refine ⟨fun pins s σ H Q I h => PySem.W.methodCall_KW (pl := pl) (thn (he.run pins s σ H (fun v H1 => v = .ref C ∧ sp (.ref C :: dv) H1 Q (E σ)) I ⟨rfl, h⟩) fun u s1 ⟨x, H1, I1, rx, ex, q⟩ => ?_) ht⟩
  subst ex
  obtain rfl : u = Value.ref C := rx
  refine ClX.getmethcm_ok I1 r c fun s2 I2 => ?_
  exact PySem.W.callWith_M0 (K := X.K) (first := []) ⟨ClX.pin_at I2, I2.kIn⟩ c.fi (run_k (vs := []) F hr gd dvr hb hx I2 .nil q)
end
/-- C.m(..), C a class -/
def dKM (C : Addr) (sp : DSp) (dv : List PyData) (ta : DTA) (ρ : DS) (ω : Wd) (q : DQ) (x : DXK) : Prop := ta ρ ω (fun ts ω1 => sp (refD C :: ts ++ dv) ω1 q x) x
/-- (*a, ..) -/
def dStar (te : DTE) (ta : DTA) (ρ : DS) (ω : Wd) (q : List PyData → Wd → Prop) (x : DXK) : Prop := te ρ ω (fun a ω1 => ∃ xs, (a = .tuple xs ∨ a = .list xs) ∧ ta ρ ω1 (fun ys ω2 => q (xs ++ ys) ω2) x) x
section
variable {W : WX} {X : Cx} {K : PySem.W.Frag} {CX : CXT} {j k : Nat} {C : Addr} {m : Str} {sp : DSp} {o e : Expr} {es : List Expr} {tA : DTA} {te : DTE} {apos pos p : Pos} {ps : List Str} {dv : List V} {dd : List PyData}
theorem de_kfn {pl : Sem Bool} (hK : X.K = K) (he : PE X o (tC (.ref C))) (V : Kfn X.prog X.w X.K X.mg X.base CX j C m ps dv (spD K sp)) (hd : ∀ J, RpAll K J dv dd) (c : Ct X.mg X.A k) (h : j ≤ k) (px : PX CX X W) (args : DAs W X K (e :: es) tA)
    (hst : starEach (e :: es) X.env = (false, eval e X.env) :: starEach es X.env := by rfl) (hpl : (backTo pos (starEach es X.env)).any (·.1) = false := by rfl)
    (ht : eval (.Call (.Attribute o m apos) (e :: es) [] pos) X.env = (do
      let ov ← eval o X.env
      standAt apos.atName
      let (f, first) ← holding [ov] (getMethod ov m pl)
      callWith pos f first (backTo pos (starEach (e :: es) X.env)) (backToKw pos (keywordEach [] X.env))) := by rfl) :
    DE W X K (.Call (.Attribute o m apos) (e :: es) [] pos) (dKM C sp dd tA) := by
  subst hK
  obtain ⟨t, pp, kk⟩ := args
  refine ⟨_, pe_kfn (E := fun σ cl d H => W cl d σ H) he V (c.r.mono h) c.g px pp hst hpl ht, fun σ H J ω ρ q x Q w s cq cx z => kk σ H J ω ρ _ x _ w s (fun ts ω1 vs J1 H1 z1 g1 w1 rps => ?_) cx z⟩
  exact ⟨J1, ω1, _, q, x, w1, .cons (.ref C) (rps.append (hd J1)), cq.step g1, cx.step g1, z1⟩
theorem de_kfn0 {pl : Sem Bool} (hK : X.K = K) (he : PE X o (tC (.ref C))) (V : Kfn X.prog X.w X.K X.mg X.base CX j C m ps dv (spD K sp)) (hd : ∀ J, RpAll K J dv dd) (c : Ct X.mg X.A k) (h : j ≤ k) (px : PX CX X W)
    (ht : eval (.Call (.Attribute o m apos) [] [] pos) X.env = (do
      let ov ← eval o X.env
      standAt apos.atName
      let (f, first) ← holding [ov] (getMethod ov m pl)
      callWith pos f first (backTo pos (starEach [] X.env)) (backToKw pos (keywordEach [] X.env))) := by rfl) :
    DE W X K (.Call (.Attribute o m apos) [] [] pos) (dKM C sp dd dNil) := by
  subst hK
  exact ⟨_, pe_kfn0 (E := fun σ cl d H => W cl d σ H) he V (c.r.mono h) c.g px ht, fun σ H J ω ρ q x Q w s cq cx z => ⟨J, ω, _, q, x, w, .cons (.ref C) (hd J), cq, cx, z⟩⟩
theorem da_star (hK : X.K = K) (he : DE W X K e te) (ha : DAs W X K es tA) : DAs W X K (.Starred e p :: es) (dStar te tA) := by
  subst hK
  obtain ⟨t, pp, kk⟩ := he
  obtain ⟨u, qq, ll⟩ := ha
  refine ⟨_, StX.pa_star pp qq, fun σ H J ω ρ q x Q w s cq cx z => kk σ H J ω ρ _ x _ w s (fun r ω1 v J1 H1 z1 g1 w1 rp => ?_) cx z⟩
  obtain ⟨xs, hx, z2⟩ := z1
  have fin : ∀ vs, RpAll X.K J1 vs xs → u σ H1 fun ys H2 => Q (vs ++ ys) H2 := fun vs rv => ll σ H1 J1 ω1 ρ _ x _ w1 (s.mono g1.jj) (fun ys ω2 us J2 H2 z3 g2 w2 rs => cq _ _ _ _ _ z3 (g1.trans g2) w2 ((rpAll_mono g2.jj _ _ rv).append rs)) (cx.step g1) z2
  rcases hx with rfl | rfl
  · cases rp with
    | tup hs ha => exact ⟨_, _, rfl, .inl (Same.sqT w1.jh hs), fin _ ha⟩
  · cases rp with
    | lst hs ha => exact ⟨_, _, rfl, .inr (SqL.of (w1.jh _ _ hs)), fin _ ha⟩
end
end Tx

namespace Tx
open PySem PySem.Spec PyProof.Rows L2
/-! ## Shapes: one node, all nodes -/
/-- 0 node, 1 told, 2 sort, 3 count, 4 is_filled, 5 word -/
abbrev sSettled : Stmt := top 10
theorem scSettled : FnScope ["node", "told", "sort", "count", "is_filled", "word"] ["node", "told", "sort", "count", "is_filled"] (defScope sSettled) := ⟨rfl, rfl, rfl, by decide +kernel, rfl, by decide +kernel, by decide +kernel⟩
theorem w_any_text : decide (("any" : Str) = "text") = false := by decide +kernel
theorem w_any_lists : decide (("any" : Str) = "lists") = false := by decide +kernel
theorem w_any_nested : decide (("any" : Str) = "nested") = false := by decide +kernel
theorem w_any_not : decide (("any" : Str) = "not") = false := by decide +kernel
theorem w_any_or : decide (("any" : Str) = "or") = false := by decide +kernel
theorem w_any_and : decide (("any" : Str) = "and") = false := by decide +kernel
theorem w_any_less : decide (("any" : Str) = "less") = false := by decide +kernel
theorem w_any_any : decide (("any" : Str) = "any") = true := by decide +kernel
theorem w_any_nothing : decide (("any" : Str) = "nothing") = false := by decide +kernel
theorem w_never_text : decide (("never" : Str) = "text") = false := by decide +kernel
theorem w_never_lists : decide (("never" : Str) = "lists") = false := by decide +kernel
theorem w_never_nested : decide (("never" : Str) = "nested") = false := by decide +kernel
theorem w_never_not : decide (("never" : Str) = "not") = false := by decide +kernel
theorem w_never_or : decide (("never" : Str) = "or") = false := by decide +kernel
theorem w_never_and : decide (("never" : Str) = "and") = false := by decide +kernel
theorem w_never_less : decide (("never" : Str) = "less") = false := by decide +kernel
theorem w_never_any : decide (("never" : Str) = "any") = false := by decide +kernel
theorem w_never_nothing : decide (("never" : Str) = "nothing") = false := by decide +kernel
theorem w_nothing_text : decide (("nothing" : Str) = "text") = false := by decide +kernel
theorem w_nothing_lists : decide (("nothing" : Str) = "lists") = false := by decide +kernel
theorem w_nothing_nested : decide (("nothing" : Str) = "nested") = false := by decide +kernel
theorem w_nothing_not : decide (("nothing" : Str) = "not") = false := by decide +kernel
theorem w_nothing_or : decide (("nothing" : Str) = "or") = false := by decide +kernel
theorem w_nothing_and : decide (("nothing" : Str) = "and") = false := by decide +kernel
theorem w_nothing_less : decide (("nothing" : Str) = "less") = false := by decide +kernel
theorem w_nothing_any : decide (("nothing" : Str) = "any") = false := by decide +kernel
theorem w_nothing_nothing : decide (("nothing" : Str) = "nothing") = true := by decide +kernel
theorem w_text_text : decide (("text" : Str) = "text") = true := by decide +kernel
theorem w_text_lists : decide (("text" : Str) = "lists") = false := by decide +kernel
theorem w_text_nested : decide (("text" : Str) = "nested") = false := by decide +kernel
theorem w_text_not : decide (("text" : Str) = "not") = false := by decide +kernel
theorem w_text_or : decide (("text" : Str) = "or") = false := by decide +kernel
theorem w_text_and : decide (("text" : Str) = "and") = false := by decide +kernel
theorem w_text_less : decide (("text" : Str) = "less") = false := by decide +kernel
theorem w_text_any : decide (("text" : Str) = "any") = false := by decide +kernel
theorem w_text_nothing : decide (("text" : Str) = "nothing") = false := by decide +kernel
theorem w_lists_text : decide (("lists" : Str) = "text") = false := by decide +kernel
theorem w_lists_lists : decide (("lists" : Str) = "lists") = true := by decide +kernel
theorem w_lists_nested : decide (("lists" : Str) = "nested") = false := by decide +kernel
theorem w_lists_not : decide (("lists" : Str) = "not") = false := by decide +kernel
theorem w_lists_or : decide (("lists" : Str) = "or") = false := by decide +kernel
theorem w_lists_and : decide (("lists" : Str) = "and") = false := by decide +kernel
theorem w_lists_less : decide (("lists" : Str) = "less") = false := by decide +kernel
theorem w_lists_any : decide (("lists" : Str) = "any") = false := by decide +kernel
theorem w_lists_nothing : decide (("lists" : Str) = "nothing") = false := by decide +kernel
theorem w_nested_text : decide (("nested" : Str) = "text") = false := by decide +kernel
theorem w_nested_lists : decide (("nested" : Str) = "lists") = false := by decide +kernel
theorem w_nested_nested : decide (("nested" : Str) = "nested") = true := by decide +kernel
theorem w_nested_not : decide (("nested" : Str) = "not") = false := by decide +kernel
theorem w_nested_or : decide (("nested" : Str) = "or") = false := by decide +kernel
theorem w_nested_and : decide (("nested" : Str) = "and") = false := by decide +kernel
theorem w_nested_less : decide (("nested" : Str) = "less") = false := by decide +kernel
theorem w_nested_any : decide (("nested" : Str) = "any") = false := by decide +kernel
theorem w_nested_nothing : decide (("nested" : Str) = "nothing") = false := by decide +kernel
theorem w_not_text : decide (("not" : Str) = "text") = false := by decide +kernel
theorem w_not_lists : decide (("not" : Str) = "lists") = false := by decide +kernel
theorem w_not_nested : decide (("not" : Str) = "nested") = false := by decide +kernel
theorem w_not_not : decide (("not" : Str) = "not") = true := by decide +kernel
theorem w_not_or : decide (("not" : Str) = "or") = false := by decide +kernel
theorem w_not_and : decide (("not" : Str) = "and") = false := by decide +kernel
theorem w_not_less : decide (("not" : Str) = "less") = false := by decide +kernel
theorem w_not_any : decide (("not" : Str) = "any") = false := by decide +kernel
theorem w_not_nothing : decide (("not" : Str) = "nothing") = false := by decide +kernel
theorem w_or_text : decide (("or" : Str) = "text") = false := by decide +kernel
theorem w_or_lists : decide (("or" : Str) = "lists") = false := by decide +kernel
theorem w_or_nested : decide (("or" : Str) = "nested") = false := by decide +kernel
theorem w_or_not : decide (("or" : Str) = "not") = false := by decide +kernel
theorem w_or_or : decide (("or" : Str) = "or") = true := by decide +kernel
theorem w_or_and : decide (("or" : Str) = "and") = false := by decide +kernel
theorem w_or_less : decide (("or" : Str) = "less") = false := by decide +kernel
theorem w_or_any : decide (("or" : Str) = "any") = false := by decide +kernel
theorem w_or_nothing : decide (("or" : Str) = "nothing") = false := by decide +kernel
theorem w_and_text : decide (("and" : Str) = "text") = false := by decide +kernel
theorem w_and_lists : decide (("and" : Str) = "lists") = false := by decide +kernel
theorem w_and_nested : decide (("and" : Str) = "nested") = false := by decide +kernel
theorem w_and_not : decide (("and" : Str) = "not") = false := by decide +kernel
theorem w_and_or : decide (("and" : Str) = "or") = false := by decide +kernel
theorem w_and_and : decide (("and" : Str) = "and") = true := by decide +kernel
theorem w_and_less : decide (("and" : Str) = "less") = false := by decide +kernel
theorem w_and_any : decide (("and" : Str) = "any") = false := by decide +kernel
theorem w_and_nothing : decide (("and" : Str) = "nothing") = false := by decide +kernel
theorem w_less_text : decide (("less" : Str) = "text") = false := by decide +kernel
theorem w_less_lists : decide (("less" : Str) = "lists") = false := by decide +kernel
theorem w_less_nested : decide (("less" : Str) = "nested") = false := by decide +kernel
theorem w_less_not : decide (("less" : Str) = "not") = false := by decide +kernel
theorem w_less_or : decide (("less" : Str) = "or") = false := by decide +kernel
theorem w_less_and : decide (("less" : Str) = "and") = false := by decide +kernel
theorem w_less_less : decide (("less" : Str) = "less") = true := by decide +kernel
theorem w_less_any : decide (("less" : Str) = "any") = false := by decide +kernel
theorem w_less_nothing : decide (("less" : Str) = "nothing") = false := by decide +kernel
theorem w_nothing_list : decide (("nothing" : Str) = "list") = false := by decide +kernel
theorem w_text_list : decide (("text" : Str) = "list") = false := by decide +kernel
theorem w_list_text : decide (("list" : Str) = "text") = false := by decide +kernel
theorem w_list_list : decide (("list" : Str) = "list") = true := by decide +kernel
theorem w_list_nothing : decide (("list" : Str) = "nothing") = false := by decide +kernel
def dsSettled : DSp := fun ts ω q _ => ∃ nd t so n fl told, ts = [ndD nd, refD t, soD so, .int ((n : Nat) : Int), .bool fl] ∧ ω t = some (.lst (told.map PyData.bool)) ∧ nd.at told.length ∧ q (.bool (settle so n told fl nd)) ω
theorem told_at {told : List Bool} {k : Nat} (h : k < told.length) : atI (told.map PyData.bool) ((k : Nat) : Int) = some (.bool (told.getD k false)) := by
  unfold atI ixN
  rw [if_pos (by omega), if_pos (by rw [List.length_map]; omega), Option.bind_some, List.getElem?_map, List.getD_eq_getElem?_getD]
  simp [h]
theorem told_last {told : List Bool} (h : 0 < told.length) : atI (told.map PyData.bool) (-1) = some (.bool (told.getLastD false)) := by
  unfold atI ixN
  rw [if_neg (by omega), if_pos (by rw [List.length_map]; omega), Option.bind_some, List.getElem?_map, List.length_map]
  rw [List.getLastD_eq_getLast?, List.getLast?_eq_getElem?]
  have e : (-1 + (told.length : Int)).toNat = told.length - 1 := by omega
  rw [e, List.getElem?_eq_getElem (by omega)]
  rfl
section
variable {P : Program} {w : World} {K : PySem.W.Frag} {mg : Str → Option Value} {base : Heap} {C : Addr}
theorem dd_settled (h : Has K mg "settled" sSettled) (B : Bi mg) : Dfn P w K mg base CX0 1 "settled" ["node", "told", "sort", "count", "is_filled"] (spD K dsSettled) := by
  refine dfnD (k := 0) h B scSettled (fun _ _ _ _ _ _ us hl => match us, hl with | [_, _, _, _, _], _ => rfl) (fun ts ω q xx h => ?_) (fun f cv A out s H E c => ⟨_, (dss_cons (ds_set (i := 5) scSettled.nd rfl (Or.inl rfl) (de_ix rfl (de_var (pv 0)) de_int (fun _ _ => rfl)))
    (dss_cons (ds_if (dt_cmp (do_eq rfl c.r.units) (de_var (pv 5)) de_str (nomark _)) (dss_one (ds_ret (de_and (de_cmp (do_eq rfl c.r.units) (de_var (pv 2)) de_str (nomark _)) (de_and (de_cmp (do_le rfl) (de_ix rfl (de_var (pv 0)) de_int (fun _ _ => rfl)) (de_var (pv 3)) (nomark _)) (de_one (de_or (de_cmp (do_is rfl) (de_ix rfl (de_var (pv 0)) de_int (fun _ _ => rfl)) de_non (nomark _)) (de_one (de_cmp (do_le rfl) (de_var (pv 3)) (de_ix rfl (de_var (pv 0)) de_int (fun _ _ => rfl)) (nomark _))))))))) dss_nil)
    (dss_cons (ds_if (dt_cmp (do_eq rfl c.r.units) (de_var (pv 5)) de_str (nomark _)) (dss_one (ds_ret (de_and (de_cmp (do_eq rfl c.r.units) (de_var (pv 2)) de_str (nomark _)) (de_one (de_var (pv 4)))))) dss_nil)
    (dss_cons (ds_if (dt_cmp (do_eq rfl c.r.units) (de_var (pv 5)) de_str (nomark _)) (dss_one (ds_ret (de_or (de_ix rfl (de_var (pv 1)) (de_ix rfl (de_var (pv 0)) de_int (fun _ _ => rfl)) (fun _ _ => rfl)) (de_one (de_ix rfl (de_var (pv 1)) (de_neg de_int) (fun _ _ => rfl)))))) dss_nil)
    (dss_cons (ds_if (dt_cmp (do_eq rfl c.r.units) (de_var (pv 5)) de_str (nomark _)) (dss_one (ds_ret (de_not (de_ix rfl (de_var (pv 1)) (de_ix rfl (de_var (pv 0)) de_int (fun _ _ => rfl)) (fun _ _ => rfl))))) dss_nil)
    (dss_cons (ds_if (dt_cmp (do_eq rfl c.r.units) (de_var (pv 5)) de_str (nomark _)) (dss_one (ds_ret (de_or (de_ix rfl (de_var (pv 1)) (de_ix rfl (de_var (pv 0)) de_int (fun _ _ => rfl)) (fun _ _ => rfl)) (de_one (de_ix rfl (de_var (pv 1)) (de_ix rfl (de_var (pv 0)) de_int (fun _ _ => rfl)) (fun _ _ => rfl)))))) dss_nil)
    (dss_cons (ds_if (dt_cmp (do_eq rfl c.r.units) (de_var (pv 5)) de_str (nomark _)) (dss_one (ds_ret (de_and (de_ix rfl (de_var (pv 1)) (de_ix rfl (de_var (pv 0)) de_int (fun _ _ => rfl)) (fun _ _ => rfl)) (de_one (de_ix rfl (de_var (pv 1)) (de_ix rfl (de_var (pv 0)) de_int (fun _ _ => rfl)) (fun _ _ => rfl)))))) dss_nil)
    (dss_cons (ds_if (dt_cmp (do_eq rfl c.r.units) (de_var (pv 5)) de_str (nomark _)) (dss_one (ds_ret (de_and (de_ix rfl (de_var (pv 1)) (de_ix rfl (de_var (pv 0)) de_int (fun _ _ => rfl)) (fun _ _ => rfl)) (de_one (de_not (de_ix rfl (de_var (pv 1)) (de_ix rfl (de_var (pv 0)) de_int (fun _ _ => rfl)) (fun _ _ => rfl))))))) dss_nil)
    (dss_one (ds_ret (de_or (de_cmp (do_eq rfl c.r.units) (de_var (pv 5)) de_str (nomark _)) (de_one (de_and (de_cmp (do_eq rfl c.r.units) (de_var (pv 5)) de_str (nomark _)) (de_one (de_cmp (do_eq rfl c.r.units) (de_var (pv 2)) de_str (nomark _)))))))))))))))), fun ts ω q xx z => ?_⟩)
  · obtain ⟨nd, t, so, n, fl, told, rfl, _⟩ := h
    rfl
  obtain ⟨nd, t, so, n, fl, told, rfl, hT, at_, z⟩ := z
  simp only [dAnd, dAndV, dAsg, dC, dCB, dCall, dCallX, dChain, dCons, dDrop, dErr1, dIf, dIfS, dIsi, dLst, dNext, dNil, dNot, dNotV, dOp, dOr, dOrV, dPar, dRet, dRetN, dRetS, dSeq, dSet, dSl, dTest, dTup, dVar, dgCons, dgName, dgNil, dgTup, dNeg, endsD, xcOf, dFz, startD, wipeD, List.getElem?_cons_zero, List.getElem?_cons_succ, List.set_cons_zero, List.set_cons_succ, List.map_cons, List.map_nil, List.cons_append, List.nil_append, List.length_cons, List.length_nil, List.replicate]
  cases nd with
  | any =>
    simp only [ndD, ixD, rsv]
    refine ⟨_, rfl, ?_⟩
    simp only [eqD, w_any_text, w_any_lists, w_any_nested, w_any_not, w_any_or, w_any_and, w_any_less, w_any_any, w_any_nothing, w_never_text, w_never_lists, w_never_nested, w_never_not, w_never_or, w_never_and, w_never_less, w_never_any, w_never_nothing, w_nothing_text, w_nothing_lists, w_nothing_nested, w_nothing_not, w_nothing_or, w_nothing_and, w_nothing_less, w_nothing_any, w_nothing_nothing, w_text_text, w_text_lists, w_text_nested, w_text_not, w_text_or, w_text_and, w_text_less, w_text_any, w_text_nothing, w_lists_text, w_lists_lists, w_lists_nested, w_lists_not, w_lists_or, w_lists_and, w_lists_less, w_lists_any, w_lists_nothing, w_nested_text, w_nested_lists, w_nested_nested, w_nested_not, w_nested_or, w_nested_and, w_nested_less, w_nested_any, w_nested_nothing, w_not_text, w_not_lists, w_not_nested, w_not_not, w_not_or, w_not_and, w_not_less, w_not_any, w_not_nothing, w_or_text, w_or_lists, w_or_nested, w_or_not, w_or_or, w_or_and, w_or_less, w_or_any, w_or_nothing, w_and_text, w_and_lists, w_and_nested, w_and_not, w_and_or, w_and_and, w_and_less, w_and_any, w_and_nothing, w_less_text, w_less_lists, w_less_nested, w_less_not, w_less_or, w_less_and, w_less_less, w_less_any, w_less_nothing, w_nothing_list, w_text_list, w_list_text, w_list_list, w_list_nothing, soD, decide_true, decide_false, Bool.false_eq_true, if_false, if_true]
    exact z
  | never =>
    simp only [ndD, ixD, rsv]
    refine ⟨_, rfl, ?_⟩
    simp only [eqD, w_any_text, w_any_lists, w_any_nested, w_any_not, w_any_or, w_any_and, w_any_less, w_any_any, w_any_nothing, w_never_text, w_never_lists, w_never_nested, w_never_not, w_never_or, w_never_and, w_never_less, w_never_any, w_never_nothing, w_nothing_text, w_nothing_lists, w_nothing_nested, w_nothing_not, w_nothing_or, w_nothing_and, w_nothing_less, w_nothing_any, w_nothing_nothing, w_text_text, w_text_lists, w_text_nested, w_text_not, w_text_or, w_text_and, w_text_less, w_text_any, w_text_nothing, w_lists_text, w_lists_lists, w_lists_nested, w_lists_not, w_lists_or, w_lists_and, w_lists_less, w_lists_any, w_lists_nothing, w_nested_text, w_nested_lists, w_nested_nested, w_nested_not, w_nested_or, w_nested_and, w_nested_less, w_nested_any, w_nested_nothing, w_not_text, w_not_lists, w_not_nested, w_not_not, w_not_or, w_not_and, w_not_less, w_not_any, w_not_nothing, w_or_text, w_or_lists, w_or_nested, w_or_not, w_or_or, w_or_and, w_or_less, w_or_any, w_or_nothing, w_and_text, w_and_lists, w_and_nested, w_and_not, w_and_or, w_and_and, w_and_less, w_and_any, w_and_nothing, w_less_text, w_less_lists, w_less_nested, w_less_not, w_less_or, w_less_and, w_less_less, w_less_any, w_less_nothing, w_nothing_list, w_text_list, w_list_text, w_list_list, w_list_nothing, soD, decide_true, decide_false, Bool.false_eq_true, if_false, if_true]
    exact z
  | nothing =>
    simp only [ndD, ixD, rsv]
    refine ⟨_, rfl, ?_⟩
    simp only [eqD, w_any_text, w_any_lists, w_any_nested, w_any_not, w_any_or, w_any_and, w_any_less, w_any_any, w_any_nothing, w_never_text, w_never_lists, w_never_nested, w_never_not, w_never_or, w_never_and, w_never_less, w_never_any, w_never_nothing, w_nothing_text, w_nothing_lists, w_nothing_nested, w_nothing_not, w_nothing_or, w_nothing_and, w_nothing_less, w_nothing_any, w_nothing_nothing, w_text_text, w_text_lists, w_text_nested, w_text_not, w_text_or, w_text_and, w_text_less, w_text_any, w_text_nothing, w_lists_text, w_lists_lists, w_lists_nested, w_lists_not, w_lists_or, w_lists_and, w_lists_less, w_lists_any, w_lists_nothing, w_nested_text, w_nested_lists, w_nested_nested, w_nested_not, w_nested_or, w_nested_and, w_nested_less, w_nested_any, w_nested_nothing, w_not_text, w_not_lists, w_not_nested, w_not_not, w_not_or, w_not_and, w_not_less, w_not_any, w_not_nothing, w_or_text, w_or_lists, w_or_nested, w_or_not, w_or_or, w_or_and, w_or_less, w_or_any, w_or_nothing, w_and_text, w_and_lists, w_and_nested, w_and_not, w_and_or, w_and_and, w_and_less, w_and_any, w_and_nothing, w_less_text, w_less_lists, w_less_nested, w_less_not, w_less_or, w_less_and, w_less_less, w_less_any, w_less_nothing, w_nothing_list, w_text_list, w_list_text, w_list_list, w_list_nothing, soD, decide_true, decide_false, Bool.false_eq_true, if_false, if_true]
    cases so <;> simp only [w_any_text, w_any_lists, w_any_nested, w_any_not, w_any_or, w_any_and, w_any_less, w_any_any, w_any_nothing, w_never_text, w_never_lists, w_never_nested, w_never_not, w_never_or, w_never_and, w_never_less, w_never_any, w_never_nothing, w_nothing_text, w_nothing_lists, w_nothing_nested, w_nothing_not, w_nothing_or, w_nothing_and, w_nothing_less, w_nothing_any, w_nothing_nothing, w_text_text, w_text_lists, w_text_nested, w_text_not, w_text_or, w_text_and, w_text_less, w_text_any, w_text_nothing, w_lists_text, w_lists_lists, w_lists_nested, w_lists_not, w_lists_or, w_lists_and, w_lists_less, w_lists_any, w_lists_nothing, w_nested_text, w_nested_lists, w_nested_nested, w_nested_not, w_nested_or, w_nested_and, w_nested_less, w_nested_any, w_nested_nothing, w_not_text, w_not_lists, w_not_nested, w_not_not, w_not_or, w_not_and, w_not_less, w_not_any, w_not_nothing, w_or_text, w_or_lists, w_or_nested, w_or_not, w_or_or, w_or_and, w_or_less, w_or_any, w_or_nothing, w_and_text, w_and_lists, w_and_nested, w_and_not, w_and_or, w_and_and, w_and_less, w_and_any, w_and_nothing, w_less_text, w_less_lists, w_less_nested, w_less_not, w_less_or, w_less_and, w_less_less, w_less_any, w_less_nothing, w_nothing_list, w_text_list, w_list_text, w_list_list, w_list_nothing, decide_true, decide_false, Bool.false_eq_true, if_false, if_true] <;> exact z
  | text lo hi =>
    simp only [ndD, ixD, rsv]
    refine ⟨_, rfl, ?_⟩
    simp only [eqD, w_any_text, w_any_lists, w_any_nested, w_any_not, w_any_or, w_any_and, w_any_less, w_any_any, w_any_nothing, w_never_text, w_never_lists, w_never_nested, w_never_not, w_never_or, w_never_and, w_never_less, w_never_any, w_never_nothing, w_nothing_text, w_nothing_lists, w_nothing_nested, w_nothing_not, w_nothing_or, w_nothing_and, w_nothing_less, w_nothing_any, w_nothing_nothing, w_text_text, w_text_lists, w_text_nested, w_text_not, w_text_or, w_text_and, w_text_less, w_text_any, w_text_nothing, w_lists_text, w_lists_lists, w_lists_nested, w_lists_not, w_lists_or, w_lists_and, w_lists_less, w_lists_any, w_lists_nothing, w_nested_text, w_nested_lists, w_nested_nested, w_nested_not, w_nested_or, w_nested_and, w_nested_less, w_nested_any, w_nested_nothing, w_not_text, w_not_lists, w_not_nested, w_not_not, w_not_or, w_not_and, w_not_less, w_not_any, w_not_nothing, w_or_text, w_or_lists, w_or_nested, w_or_not, w_or_or, w_or_and, w_or_less, w_or_any, w_or_nothing, w_and_text, w_and_lists, w_and_nested, w_and_not, w_and_or, w_and_and, w_and_less, w_and_any, w_and_nothing, w_less_text, w_less_lists, w_less_nested, w_less_not, w_less_or, w_less_and, w_less_less, w_less_any, w_less_nothing, w_nothing_list, w_text_list, w_list_text, w_list_list, w_list_nothing, soD, decide_true, decide_false, Bool.false_eq_true, if_false, if_true]
    cases so with
    | no => simp only [w_any_text, w_any_lists, w_any_nested, w_any_not, w_any_or, w_any_and, w_any_less, w_any_any, w_any_nothing, w_never_text, w_never_lists, w_never_nested, w_never_not, w_never_or, w_never_and, w_never_less, w_never_any, w_never_nothing, w_nothing_text, w_nothing_lists, w_nothing_nested, w_nothing_not, w_nothing_or, w_nothing_and, w_nothing_less, w_nothing_any, w_nothing_nothing, w_text_text, w_text_lists, w_text_nested, w_text_not, w_text_or, w_text_and, w_text_less, w_text_any, w_text_nothing, w_lists_text, w_lists_lists, w_lists_nested, w_lists_not, w_lists_or, w_lists_and, w_lists_less, w_lists_any, w_lists_nothing, w_nested_text, w_nested_lists, w_nested_nested, w_nested_not, w_nested_or, w_nested_and, w_nested_less, w_nested_any, w_nested_nothing, w_not_text, w_not_lists, w_not_nested, w_not_not, w_not_or, w_not_and, w_not_less, w_not_any, w_not_nothing, w_or_text, w_or_lists, w_or_nested, w_or_not, w_or_or, w_or_and, w_or_less, w_or_any, w_or_nothing, w_and_text, w_and_lists, w_and_nested, w_and_not, w_and_or, w_and_and, w_and_less, w_and_any, w_and_nothing, w_less_text, w_less_lists, w_less_nested, w_less_not, w_less_or, w_less_and, w_less_less, w_less_any, w_less_nothing, w_nothing_list, w_text_list, w_list_text, w_list_list, w_list_nothing, decide_true, decide_false, Bool.false_eq_true, if_false, if_true]; exact z
    | ls => simp only [w_any_text, w_any_lists, w_any_nested, w_any_not, w_any_or, w_any_and, w_any_less, w_any_any, w_any_nothing, w_never_text, w_never_lists, w_never_nested, w_never_not, w_never_or, w_never_and, w_never_less, w_never_any, w_never_nothing, w_nothing_text, w_nothing_lists, w_nothing_nested, w_nothing_not, w_nothing_or, w_nothing_and, w_nothing_less, w_nothing_any, w_nothing_nothing, w_text_text, w_text_lists, w_text_nested, w_text_not, w_text_or, w_text_and, w_text_less, w_text_any, w_text_nothing, w_lists_text, w_lists_lists, w_lists_nested, w_lists_not, w_lists_or, w_lists_and, w_lists_less, w_lists_any, w_lists_nothing, w_nested_text, w_nested_lists, w_nested_nested, w_nested_not, w_nested_or, w_nested_and, w_nested_less, w_nested_any, w_nested_nothing, w_not_text, w_not_lists, w_not_nested, w_not_not, w_not_or, w_not_and, w_not_less, w_not_any, w_not_nothing, w_or_text, w_or_lists, w_or_nested, w_or_not, w_or_or, w_or_and, w_or_less, w_or_any, w_or_nothing, w_and_text, w_and_lists, w_and_nested, w_and_not, w_and_or, w_and_and, w_and_less, w_and_any, w_and_nothing, w_less_text, w_less_lists, w_less_nested, w_less_not, w_less_or, w_less_and, w_less_less, w_less_any, w_less_nothing, w_nothing_list, w_text_list, w_list_text, w_list_list, w_list_nothing, decide_true, decide_false, Bool.false_eq_true, if_false, if_true]; exact z
    | tx =>
      simp only [w_any_text, w_any_lists, w_any_nested, w_any_not, w_any_or, w_any_and, w_any_less, w_any_any, w_any_nothing, w_never_text, w_never_lists, w_never_nested, w_never_not, w_never_or, w_never_and, w_never_less, w_never_any, w_never_nothing, w_nothing_text, w_nothing_lists, w_nothing_nested, w_nothing_not, w_nothing_or, w_nothing_and, w_nothing_less, w_nothing_any, w_nothing_nothing, w_text_text, w_text_lists, w_text_nested, w_text_not, w_text_or, w_text_and, w_text_less, w_text_any, w_text_nothing, w_lists_text, w_lists_lists, w_lists_nested, w_lists_not, w_lists_or, w_lists_and, w_lists_less, w_lists_any, w_lists_nothing, w_nested_text, w_nested_lists, w_nested_nested, w_nested_not, w_nested_or, w_nested_and, w_nested_less, w_nested_any, w_nested_nothing, w_not_text, w_not_lists, w_not_nested, w_not_not, w_not_or, w_not_and, w_not_less, w_not_any, w_not_nothing, w_or_text, w_or_lists, w_or_nested, w_or_not, w_or_or, w_or_and, w_or_less, w_or_any, w_or_nothing, w_and_text, w_and_lists, w_and_nested, w_and_not, w_and_or, w_and_and, w_and_less, w_and_any, w_and_nothing, w_less_text, w_less_lists, w_less_nested, w_less_not, w_less_or, w_less_and, w_less_less, w_less_any, w_less_nothing, w_nothing_list, w_text_list, w_list_text, w_list_list, w_list_nothing, decide_true, decide_false, Bool.false_eq_true, if_false, if_true]
      refine ⟨_, rfl, trivial, ?_⟩
      simp only [settle, decide_true, Bool.true_and] at z
      refine ite2 (fun c => ?_) (fun c => ?_)
      · rw [c, Bool.true_and] at z
        cases hi with
        | none => exact ⟨_, rfl, rfl, z⟩
        | some h => exact ⟨_, rfl, rfl, _, rfl, trivial, z⟩
      · rw [Bool.eq_false_iff.mpr c, Bool.false_and] at z
        exact z
  | lists k =>
    simp only [ndD, ixD, rsv]
    refine ⟨_, rfl, ?_⟩
    simp only [eqD, w_any_text, w_any_lists, w_any_nested, w_any_not, w_any_or, w_any_and, w_any_less, w_any_any, w_any_nothing, w_never_text, w_never_lists, w_never_nested, w_never_not, w_never_or, w_never_and, w_never_less, w_never_any, w_never_nothing, w_nothing_text, w_nothing_lists, w_nothing_nested, w_nothing_not, w_nothing_or, w_nothing_and, w_nothing_less, w_nothing_any, w_nothing_nothing, w_text_text, w_text_lists, w_text_nested, w_text_not, w_text_or, w_text_and, w_text_less, w_text_any, w_text_nothing, w_lists_text, w_lists_lists, w_lists_nested, w_lists_not, w_lists_or, w_lists_and, w_lists_less, w_lists_any, w_lists_nothing, w_nested_text, w_nested_lists, w_nested_nested, w_nested_not, w_nested_or, w_nested_and, w_nested_less, w_nested_any, w_nested_nothing, w_not_text, w_not_lists, w_not_nested, w_not_not, w_not_or, w_not_and, w_not_less, w_not_any, w_not_nothing, w_or_text, w_or_lists, w_or_nested, w_or_not, w_or_or, w_or_and, w_or_less, w_or_any, w_or_nothing, w_and_text, w_and_lists, w_and_nested, w_and_not, w_and_or, w_and_and, w_and_less, w_and_any, w_and_nothing, w_less_text, w_less_lists, w_less_nested, w_less_not, w_less_or, w_less_and, w_less_less, w_less_any, w_less_nothing, w_nothing_list, w_text_list, w_list_text, w_list_list, w_list_nothing, soD, decide_true, decide_false, Bool.false_eq_true, if_false, if_true]
    cases so <;> simp only [w_any_text, w_any_lists, w_any_nested, w_any_not, w_any_or, w_any_and, w_any_less, w_any_any, w_any_nothing, w_never_text, w_never_lists, w_never_nested, w_never_not, w_never_or, w_never_and, w_never_less, w_never_any, w_never_nothing, w_nothing_text, w_nothing_lists, w_nothing_nested, w_nothing_not, w_nothing_or, w_nothing_and, w_nothing_less, w_nothing_any, w_nothing_nothing, w_text_text, w_text_lists, w_text_nested, w_text_not, w_text_or, w_text_and, w_text_less, w_text_any, w_text_nothing, w_lists_text, w_lists_lists, w_lists_nested, w_lists_not, w_lists_or, w_lists_and, w_lists_less, w_lists_any, w_lists_nothing, w_nested_text, w_nested_lists, w_nested_nested, w_nested_not, w_nested_or, w_nested_and, w_nested_less, w_nested_any, w_nested_nothing, w_not_text, w_not_lists, w_not_nested, w_not_not, w_not_or, w_not_and, w_not_less, w_not_any, w_not_nothing, w_or_text, w_or_lists, w_or_nested, w_or_not, w_or_or, w_or_and, w_or_less, w_or_any, w_or_nothing, w_and_text, w_and_lists, w_and_nested, w_and_not, w_and_or, w_and_and, w_and_less, w_and_any, w_and_nothing, w_less_text, w_less_lists, w_less_nested, w_less_not, w_less_or, w_less_and, w_less_less, w_less_any, w_less_nothing, w_nothing_list, w_text_list, w_list_text, w_list_list, w_list_nothing, decide_true, decide_false, Bool.false_eq_true, if_false, if_true] <;> exact z
  | nested k =>
    simp only [ndD, ixD, rsv, Int.toNat_natCast, hT]
    refine ⟨_, rfl, ?_⟩
    simp only [eqD, w_any_text, w_any_lists, w_any_nested, w_any_not, w_any_or, w_any_and, w_any_less, w_any_any, w_any_nothing, w_never_text, w_never_lists, w_never_nested, w_never_not, w_never_or, w_never_and, w_never_less, w_never_any, w_never_nothing, w_nothing_text, w_nothing_lists, w_nothing_nested, w_nothing_not, w_nothing_or, w_nothing_and, w_nothing_less, w_nothing_any, w_nothing_nothing, w_text_text, w_text_lists, w_text_nested, w_text_not, w_text_or, w_text_and, w_text_less, w_text_any, w_text_nothing, w_lists_text, w_lists_lists, w_lists_nested, w_lists_not, w_lists_or, w_lists_and, w_lists_less, w_lists_any, w_lists_nothing, w_nested_text, w_nested_lists, w_nested_nested, w_nested_not, w_nested_or, w_nested_and, w_nested_less, w_nested_any, w_nested_nothing, w_not_text, w_not_lists, w_not_nested, w_not_not, w_not_or, w_not_and, w_not_less, w_not_any, w_not_nothing, w_or_text, w_or_lists, w_or_nested, w_or_not, w_or_or, w_or_and, w_or_less, w_or_any, w_or_nothing, w_and_text, w_and_lists, w_and_nested, w_and_not, w_and_or, w_and_and, w_and_less, w_and_any, w_and_nothing, w_less_text, w_less_lists, w_less_nested, w_less_not, w_less_or, w_less_and, w_less_less, w_less_any, w_less_nothing, w_nothing_list, w_text_list, w_list_text, w_list_list, w_list_nothing, soD, decide_true, decide_false, Bool.false_eq_true, if_false, if_true]
    refine ⟨_, rfl, _, told_at at_, ?_⟩
    simp only [settle] at z
    refine ite2 (fun c => ?_) (fun c => ?_)
    · rw [c, Bool.true_or] at z
      exact z
    · rw [Bool.eq_false_iff.mpr c, Bool.false_or] at z
      exact ⟨_, told_last (by have : k < told.length := at_; omega), z⟩
  | not k =>
    simp only [ndD, ixD, rsv, Int.toNat_natCast, hT]
    refine ⟨_, rfl, ?_⟩
    simp only [eqD, w_any_text, w_any_lists, w_any_nested, w_any_not, w_any_or, w_any_and, w_any_less, w_any_any, w_any_nothing, w_never_text, w_never_lists, w_never_nested, w_never_not, w_never_or, w_never_and, w_never_less, w_never_any, w_never_nothing, w_nothing_text, w_nothing_lists, w_nothing_nested, w_nothing_not, w_nothing_or, w_nothing_and, w_nothing_less, w_nothing_any, w_nothing_nothing, w_text_text, w_text_lists, w_text_nested, w_text_not, w_text_or, w_text_and, w_text_less, w_text_any, w_text_nothing, w_lists_text, w_lists_lists, w_lists_nested, w_lists_not, w_lists_or, w_lists_and, w_lists_less, w_lists_any, w_lists_nothing, w_nested_text, w_nested_lists, w_nested_nested, w_nested_not, w_nested_or, w_nested_and, w_nested_less, w_nested_any, w_nested_nothing, w_not_text, w_not_lists, w_not_nested, w_not_not, w_not_or, w_not_and, w_not_less, w_not_any, w_not_nothing, w_or_text, w_or_lists, w_or_nested, w_or_not, w_or_or, w_or_and, w_or_less, w_or_any, w_or_nothing, w_and_text, w_and_lists, w_and_nested, w_and_not, w_and_or, w_and_and, w_and_less, w_and_any, w_and_nothing, w_less_text, w_less_lists, w_less_nested, w_less_not, w_less_or, w_less_and, w_less_less, w_less_any, w_less_nothing, w_nothing_list, w_text_list, w_list_text, w_list_list, w_list_nothing, soD, decide_true, decide_false, Bool.false_eq_true, if_false, if_true]
    refine ⟨_, rfl, _, told_at at_, ?_⟩
    exact z
  | or i j =>
    simp only [ndD, ixD, rsv, Int.toNat_natCast, hT]
    refine ⟨_, rfl, ?_⟩
    simp only [eqD, w_any_text, w_any_lists, w_any_nested, w_any_not, w_any_or, w_any_and, w_any_less, w_any_any, w_any_nothing, w_never_text, w_never_lists, w_never_nested, w_never_not, w_never_or, w_never_and, w_never_less, w_never_any, w_never_nothing, w_nothing_text, w_nothing_lists, w_nothing_nested, w_nothing_not, w_nothing_or, w_nothing_and, w_nothing_less, w_nothing_any, w_nothing_nothing, w_text_text, w_text_lists, w_text_nested, w_text_not, w_text_or, w_text_and, w_text_less, w_text_any, w_text_nothing, w_lists_text, w_lists_lists, w_lists_nested, w_lists_not, w_lists_or, w_lists_and, w_lists_less, w_lists_any, w_lists_nothing, w_nested_text, w_nested_lists, w_nested_nested, w_nested_not, w_nested_or, w_nested_and, w_nested_less, w_nested_any, w_nested_nothing, w_not_text, w_not_lists, w_not_nested, w_not_not, w_not_or, w_not_and, w_not_less, w_not_any, w_not_nothing, w_or_text, w_or_lists, w_or_nested, w_or_not, w_or_or, w_or_and, w_or_less, w_or_any, w_or_nothing, w_and_text, w_and_lists, w_and_nested, w_and_not, w_and_or, w_and_and, w_and_less, w_and_any, w_and_nothing, w_less_text, w_less_lists, w_less_nested, w_less_not, w_less_or, w_less_and, w_less_less, w_less_any, w_less_nothing, w_nothing_list, w_text_list, w_list_text, w_list_list, w_list_nothing, soD, decide_true, decide_false, Bool.false_eq_true, if_false, if_true]
    refine ⟨_, rfl, _, told_at at_.1, ?_⟩
    simp only [settle] at z
    refine ite2 (fun c => ?_) (fun c => ?_)
    · rw [c, Bool.true_or] at z
      exact z
    · rw [Bool.eq_false_iff.mpr c, Bool.false_or] at z
      exact ⟨_, rfl, _, told_at at_.2, z⟩
  | and i j =>
    simp only [ndD, ixD, rsv, Int.toNat_natCast, hT]
    refine ⟨_, rfl, ?_⟩
    simp only [eqD, w_any_text, w_any_lists, w_any_nested, w_any_not, w_any_or, w_any_and, w_any_less, w_any_any, w_any_nothing, w_never_text, w_never_lists, w_never_nested, w_never_not, w_never_or, w_never_and, w_never_less, w_never_any, w_never_nothing, w_nothing_text, w_nothing_lists, w_nothing_nested, w_nothing_not, w_nothing_or, w_nothing_and, w_nothing_less, w_nothing_any, w_nothing_nothing, w_text_text, w_text_lists, w_text_nested, w_text_not, w_text_or, w_text_and, w_text_less, w_text_any, w_text_nothing, w_lists_text, w_lists_lists, w_lists_nested, w_lists_not, w_lists_or, w_lists_and, w_lists_less, w_lists_any, w_lists_nothing, w_nested_text, w_nested_lists, w_nested_nested, w_nested_not, w_nested_or, w_nested_and, w_nested_less, w_nested_any, w_nested_nothing, w_not_text, w_not_lists, w_not_nested, w_not_not, w_not_or, w_not_and, w_not_less, w_not_any, w_not_nothing, w_or_text, w_or_lists, w_or_nested, w_or_not, w_or_or, w_or_and, w_or_less, w_or_any, w_or_nothing, w_and_text, w_and_lists, w_and_nested, w_and_not, w_and_or, w_and_and, w_and_less, w_and_any, w_and_nothing, w_less_text, w_less_lists, w_less_nested, w_less_not, w_less_or, w_less_and, w_less_less, w_less_any, w_less_nothing, w_nothing_list, w_text_list, w_list_text, w_list_list, w_list_nothing, soD, decide_true, decide_false, Bool.false_eq_true, if_false, if_true]
    refine ⟨_, rfl, _, told_at at_.1, ?_⟩
    simp only [settle] at z
    refine ite2 (fun c => ?_) (fun c => ?_)
    · rw [c, Bool.true_and] at z
      exact ⟨_, rfl, _, told_at at_.2, z⟩
    · rw [Bool.eq_false_iff.mpr c, Bool.false_and] at z
      exact z
  | less i j =>
    simp only [ndD, ixD, rsv, Int.toNat_natCast, hT]
    refine ⟨_, rfl, ?_⟩
    simp only [eqD, w_any_text, w_any_lists, w_any_nested, w_any_not, w_any_or, w_any_and, w_any_less, w_any_any, w_any_nothing, w_never_text, w_never_lists, w_never_nested, w_never_not, w_never_or, w_never_and, w_never_less, w_never_any, w_never_nothing, w_nothing_text, w_nothing_lists, w_nothing_nested, w_nothing_not, w_nothing_or, w_nothing_and, w_nothing_less, w_nothing_any, w_nothing_nothing, w_text_text, w_text_lists, w_text_nested, w_text_not, w_text_or, w_text_and, w_text_less, w_text_any, w_text_nothing, w_lists_text, w_lists_lists, w_lists_nested, w_lists_not, w_lists_or, w_lists_and, w_lists_less, w_lists_any, w_lists_nothing, w_nested_text, w_nested_lists, w_nested_nested, w_nested_not, w_nested_or, w_nested_and, w_nested_less, w_nested_any, w_nested_nothing, w_not_text, w_not_lists, w_not_nested, w_not_not, w_not_or, w_not_and, w_not_less, w_not_any, w_not_nothing, w_or_text, w_or_lists, w_or_nested, w_or_not, w_or_or, w_or_and, w_or_less, w_or_any, w_or_nothing, w_and_text, w_and_lists, w_and_nested, w_and_not, w_and_or, w_and_and, w_and_less, w_and_any, w_and_nothing, w_less_text, w_less_lists, w_less_nested, w_less_not, w_less_or, w_less_and, w_less_less, w_less_any, w_less_nothing, w_nothing_list, w_text_list, w_list_text, w_list_list, w_list_nothing, soD, decide_true, decide_false, Bool.false_eq_true, if_false, if_true]
    refine ⟨_, rfl, _, told_at at_.1, ?_⟩
    simp only [settle] at z
    refine ite2 (fun c => ?_) (fun c => ?_)
    · rw [c, Bool.true_and] at z
      exact ⟨_, rfl, _, told_at at_.2, z⟩
    · rw [Bool.eq_false_iff.mpr c, Bool.false_and] at z
      exact z
end
end Tx

namespace Tx
open PySem PySem.Spec PyProof.Rows L2
/-! ## Shapes: all nodes, truths of values -/
/-- 0 code, 1 sort, 2 count, 3 filled, 4 told, 5 node, 6 is_filled -/
abbrev sAllS : Stmt := top 11
theorem scAllS : FnScope ["code", "sort", "count", "filled", "told", "node", "is_filled"] ["code", "sort", "count", "filled"] (defScope sAllS) := ⟨rfl, rfl, rfl, by decide +kernel, rfl, by decide +kernel, by decide +kernel⟩
/-- 0 code, 1 sort, 2 count, 3 rows, 4 filled, 5 node, 6 row -/
abbrev sTruths : Stmt := top 12
theorem scTruths : FnScope ["code", "sort", "count", "rows", "filled", "node", "row"] ["code", "sort", "count", "rows"] (defScope sTruths) := ⟨rfl, rfl, rfl, by decide +kernel, rfl, by decide +kernel, by decide +kernel⟩
/-- 0 code, 1 value, 2 one -/
abbrev sVT : Stmt := top 13
theorem scVT : FnScope ["code", "value", "one"] ["code", "value"] (defScope sVT) := ⟨rfl, rfl, rfl, by decide +kernel, rfl, by decide +kernel, by decide +kernel⟩
def bsD (bs : List Bool) : PyData := .tuple (bs.map PyData.bool)
/-- each node of a code is told by what it may ask -/
structure CodeOk (c : List Nd) : Prop where
  at_ : ∀ (i : Nat) (nd : Nd), c[i]? = some nd → nd.at i
  in_ : ∀ nd : Nd, nd ∈ c → nd.in c.length
  len : c.length ≤ 100000
def dsAllS : DSp := fun ts ω q _ => ∃ c so n fls, ts = [codeD c, soD so, .int ((n : Nat) : Int), .list (fls.map PyData.bool)] ∧ fls.length = c.length ∧ CodeOk c ∧ q (bsD (stl so n c fls [])) ω
theorem stl_snoc {so : So} {n : Nat} {c : List Nd} {fls : List Bool} {i : Nat} {nd : Nd} {f : Bool} (hl : fls.length = c.length) (h1 : c[i]? = some nd) (h2 : fls[i]? = some f) :
    stl so n (c.take (i + 1)) (fls.take (i + 1)) [] = stl so n (c.take i) (fls.take i) [] ++ [settle so n (stl so n (c.take i) (fls.take i) []) f nd] := by
  have hi := (List.getElem?_eq_some_iff.mp h1).1
  rw [List.take_add_one, List.take_add_one, h1, h2, Option.toList_some, Option.toList_some, stl_app _ _ _ _ _ (by rw [List.length_take, List.length_take]; omega)]
  rfl
theorem zip_get {xs ys : List PyData} {i : Nat} {y : PyData} (h : (zipD xs ys)[i]? = some y) : ∃ a b, xs[i]? = some a ∧ ys[i]? = some b ∧ y = .tuple [a, b] := by
  unfold zipD at h
  rw [List.getElem?_zipWith] at h
  cases e1 : xs[i]? with
  | none => rw [e1] at h; simp at h
  | some a =>
    cases e2 : ys[i]? with
    | none => rw [e1, e2] at h; simp at h
    | some b => rw [e1, e2] at h; exact ⟨a, b, rfl, rfl, (Option.some.inj h).symm⟩
theorem cb_tuple {ω : Wd} {ρ : DS} {i : Nat} {u : Addr} {xs : List PyData} {q : DQ} {x : DXK} (hρ : ρ[i]? = some (some (refD u))) (h : ω u = some (.lst xs)) (z : q (.tuple xs) ω) : dCB tupleD (dCons (dVar i) dNil) ρ ω q x := by
  unfold dCB dCons dVar dNil tupleD
  simp only [hρ]
  rw [rsv_cell h]
  exact z
def dsTruths : DSp := fun ts ω q _ => ∃ c so n rows, ts = [codeD c, soD so, .int ((n : Nat) : Int), .list (rows.map bsD)] ∧ rows.length ≤ 1000000 ∧ (∀ row ∈ rows, row.length = c.length) ∧ CodeOk c ∧ q (bsD (truthsB c so n rows)) ω
def dsVT (n : Nat) : DSp := fun ts ω q _ => ∃ c v, ts = [codeD c, v] ∧ CodeOk c ∧ isVal v = true ∧ v.depth < n ∧ szD v ≤ 1000000 ∧ q (bsD (vt c v)) ω
theorem tk_snoc {α : Type} {xs : List α} {i : Nat} {x : α} (h : xs[i]? = some x) : xs.take i ++ [x] = xs.take (i + 1) := by
  rw [List.take_add_one, h]
  rfl
theorem soD_str (so : So) : ∃ x, soD so = .str x := by cases so <;> exact ⟨_, rfl⟩
section
variable {P : Program} {w : World} {K : PySem.W.Frag} {mg : Str → Option Value} {base : Heap} {C : Addr}
theorem dd_allS (h : Has K mg "all_settled" sAllS) (B : Bi mg) (D_settled : Dfn P w K mg base CX0 1 "settled" ["node", "told", "sort", "count", "is_filled"] (spD K dsSettled)) : Dfn P w K mg base CX0 2 "all_settled" ["code", "sort", "count", "filled"] (spD K dsAllS) := by
  refine dfnD (k := 1) h B scAllS (fun _ _ _ _ _ _ us hl => match us, hl with | [_, _, _, _], _ => rfl) (fun ts ω q xx h => ?_) (fun f cv A out s H E c => ⟨_, (dss_cons (ds_set (i := 4) scAllS.nd rfl (Or.inl rfl) (de_lstO da_nil))
    (dss_cons (ds_for PassesOwn.never rfl (di_zipM rfl (by rfl) c.b.zip (da_cons (de_var (pv 0)) (da_cons (de_var (pv 3)) da_nil))) (dg_tup rfl rfl (dgs_cons (dg_name (pg_name (i := 5) scAllS.nd rfl (Or.inl rfl))) (dgs_cons (dg_name (pg_name (i := 6) scAllS.nd rfl (Or.inl rfl))) dgs_nil)))
    (dss_one (ds_expr (de_append rfl (de_var (pv 4)) (de_d D_settled c (by omega) (by rfl) (da_cons (de_var (pv 5)) (da_cons (de_var (pv 4)) (da_cons (de_var (pv 1)) (da_cons (de_var (pv 2)) (da_cons (de_var (pv 6)) da_nil))))))))))
    (dss_one (ds_retS (de_callTy (dc_tuple rfl) (by rfl) c.b.tuple (by decide +kernel) (da_cons (de_var (pv 4)) da_nil)))))), fun ts ω q xx z => ?_⟩)
  · obtain ⟨c, so, n, fls, rfl, _⟩ := h
    rfl
  obtain ⟨c, so, n, fls, rfl, hl, co, z⟩ := z
  have sl : 100000 ≤ sizeLine := by decide
  have cl := co.len
  refine ⟨by decide, fun t ht => ?_⟩
  refine ⟨by rw [List.length_map, List.length_map, hl], fun i ρ ω' => ∃ u1 u2 : Option PyData, ρ = [some (codeD c), some (soD so), some (.int ((n : Nat) : Int)), some (.list (fls.map PyData.bool)), some (refD t), u1, u2] ∧ ω' = updW ω t (.lst ((stl so n (c.take i) (fls.take i) []).map PyData.bool)), ⟨none, none, rfl, rfl⟩, ?_, ?_⟩
  · rintro i y ρ ω' hy ⟨u1, u2, rfl, rfl⟩
    obtain ⟨a, b, e1, e2, rfl⟩ := zip_get hy
    rw [List.getElem?_map] at e1 e2
    obtain ⟨nd, h1, rfl⟩ := Option.map_eq_some_iff.mp e1
    obtain ⟨f, h2, rfl⟩ := Option.map_eq_some_iff.mp e2
    have hi := (List.getElem?_eq_some_iff.mp h1).1
    have lt : (stl so n (c.take i) (fls.take i) []).length = i := by
      rw [stl_len _ _ _ (by rw [List.length_take, List.length_take]; omega), List.length_take]
      simp only [List.length_nil]
      omega
    refine ⟨rfl, rfl, ?_⟩
    refine ⟨t, _, rfl, updW_same, nd, t, so, n, f, _, rfl, updW_same, by rw [lt]; exact co.at_ i nd h1, ?_⟩
    refine ⟨_, updW_same, by rw [List.length_map, lt]; omega, _, _, rfl, ?_⟩
    rw [updW_updW, stl_snoc hl h1 h2, List.map_append]
    rfl
  · rintro ρ ω' ⟨u1, u2, rfl, rfl⟩
    have le : (zipD (c.map ndD) (fls.map PyData.bool)).length = c.length := by unfold zipD; rw [List.length_zipWith, List.length_map, List.length_map, hl, Nat.min_self]
    rw [le, List.take_length, show c.length = fls.length from hl.symm, List.take_length]
    have fin : dRetS (dCB tupleD (dCons (dVar 4) dNil)) (endsD q X0) [some (codeD c), some (soD so), some (PyData.int ↑n), some (PyData.list (List.map PyData.bool fls)), some (refD t), u1, u2] (updW ω t (MO.lst (List.map PyData.bool (stl so n c fls [])))) := by
      unfold dRetS
      refine cb_tuple rfl updW_same ?_
      exact ⟨ω, SubW.upd ht, z⟩
    exact fin
theorem dd_truths (h : Has K mg "truths" sTruths) (B : Bi mg) (D_all_settled : Dfn P w K mg base CX0 2 "all_settled" ["code", "sort", "count", "filled"] (spD K dsAllS)) : Dfn P w K mg base CX0 3 "truths" ["code", "sort", "count", "rows"] (spD K dsTruths) := by
  refine dfnD (k := 2) h B scTruths (fun _ _ _ _ _ _ us hl => match us, hl with | [_, _, _, _], _ => rfl) (fun ts ω q xx h => ?_) (fun f cv A out s H E c => ⟨_, (dss_cons (ds_setLc (i := 4) (own := [("node", 5)]) (gd := (dgName 5)) (is := [5]) (tt := dYes) rfl scTruths.nd rfl rfl (sw_true rfl rfl rfl (by decide +kernel)) (di_data rfl (de_var (pv 0))) (blkOk_by (own := [("node", 5)]) (N := ["code", "sort", "count", "rows", "filled", "node", "row"]) (sc := defScope sTruths) (by decide +kernel)) (fun _ _ _ _ _ => (dg_name (pg_name (i := 5) scTruths.nd rfl (Or.inr rfl)))) (fun _ _ _ _ _ => dts_nil) (fun _ _ _ _ _ => (de_and (de_cmp (do_eq rfl c.r.units) (de_ix rfl (de_var (pv 5)) de_int (fun _ _ => rfl)) de_str (nomark _)) (de_one (de_callB (dc_all rfl rfl) (by rfl) c.b.all (by decide +kernel) (da_cons (de_lc (own := [("row", 6)]) (gd := (dgName 6)) (is := [6]) (tt := dYes) rfl scTruths.nd (di_data rfl (de_var (pv 3))) (blkOk_by (own := [("row", 6)]) (N := ["code", "sort", "count", "rows", "filled", "node", "row"]) (by kernel_rfl)) (fun _ _ _ _ _ => (dg_name (pg_name (i := 6) scTruths.nd rfl (Or.inl rfl)))) (fun _ _ _ _ _ => dts_nil) (fun _ _ _ _ _ => (de_ix rfl (de_var (pv 6)) (de_ix rfl (de_var (pv 5)) de_int (fun _ _ => rfl)) (fun _ _ => rfl)))) da_nil))))))
    (dss_one (ds_ret (de_d D_all_settled c (by omega) (by rfl) (da_cons (de_var (pv 0)) (da_cons (de_var (pv 1)) (da_cons (de_var (pv 2)) (da_cons (de_var (pv 4)) da_nil)))))))), fun ts ω q xx z => ?_⟩)
  · obtain ⟨c, so, n, rows, rfl, _⟩ := h
    rfl
  obtain ⟨c, so, n, rows, rfl, rl, rw_, co, z⟩ := z
  have sl : 1000000 ≤ sizeLine := by decide
  have cl := co.len
  refine ⟨_, rfl, by rw [List.length_map]; omega, fun i acc ω2 => acc = (c.take i).map (fun nd => PyData.bool (fillB rows nd)) ∧ ω2 = ω, ⟨rfl, rfl⟩, ?_, ?_⟩
  · rintro i y acc ω2 hy ⟨rfl, rfl⟩ _
    rw [List.getElem?_map] at hy
    obtain ⟨nd, h1, rfl⟩ := Option.map_eq_some_iff.mp hy
    simp only [dAnd, dAndV, dAsg, dC, dCB, dCall, dCallX, dChain, dCons, dDrop, dErr1, dIf, dIfS, dIsi, dLst, dNext, dNil, dNot, dNotV, dOp, dOr, dOrV, dPar, dRet, dRetN, dRetS, dSeq, dSet, dSl, dTest, dTup, dVar, dgCons, dgName, dgNil, dgTup, dNeg, endsD, xcOf, dFz, startD, wipeD, List.getElem?_cons_zero, List.getElem?_cons_succ, List.set_cons_zero, List.set_cons_succ, List.map_cons, List.map_nil, List.cons_append, List.nil_append, List.length_cons, List.length_nil, List.replicate]
    unfold dYes
    simp only [dAnd, dAndV, dAsg, dC, dCB, dCall, dCallX, dChain, dCons, dDrop, dErr1, dIf, dIfS, dIsi, dLst, dNext, dNil, dNot, dNotV, dOp, dOr, dOrV, dPar, dRet, dRetN, dRetS, dSeq, dSet, dSl, dTest, dTup, dVar, dgCons, dgName, dgNil, dgTup, dNeg, endsD, xcOf, dFz, startD, wipeD, List.getElem?_cons_zero, List.getElem?_cons_succ, List.set_cons_zero, List.set_cons_succ, List.map_cons, List.map_nil, List.cons_append, List.nil_append, List.length_cons, List.length_nil, List.replicate]
    simp only [if_true]
    have fin : ∀ b, b = fillB rows nd → (c.take i).map (fun nd => PyData.bool (fillB rows nd)) ++ [PyData.bool b] = (c.take (i + 1)).map (fun nd => PyData.bool (fillB rows nd)) := fun b e => by
      rw [e, ← tk_snoc h1, List.map_append]
      rfl
    cases nd with
    | lists k =>
      have hk : k < c.length := co.in_ _ (List.mem_of_getElem? h1)
      simp only [ndD, ixD, rsv]
      refine ⟨_, rfl, ?_⟩
      simp only [eqD, w_any_text, w_any_lists, w_any_nested, w_any_not, w_any_or, w_any_and, w_any_less, w_any_any, w_any_nothing, w_never_text, w_never_lists, w_never_nested, w_never_not, w_never_or, w_never_and, w_never_less, w_never_any, w_never_nothing, w_nothing_text, w_nothing_lists, w_nothing_nested, w_nothing_not, w_nothing_or, w_nothing_and, w_nothing_less, w_nothing_any, w_nothing_nothing, w_text_text, w_text_lists, w_text_nested, w_text_not, w_text_or, w_text_and, w_text_less, w_text_any, w_text_nothing, w_lists_text, w_lists_lists, w_lists_nested, w_lists_not, w_lists_or, w_lists_and, w_lists_less, w_lists_any, w_lists_nothing, w_nested_text, w_nested_lists, w_nested_nested, w_nested_not, w_nested_or, w_nested_and, w_nested_less, w_nested_any, w_nested_nothing, w_not_text, w_not_lists, w_not_nested, w_not_not, w_not_or, w_not_and, w_not_less, w_not_any, w_not_nothing, w_or_text, w_or_lists, w_or_nested, w_or_not, w_or_or, w_or_and, w_or_less, w_or_any, w_or_nothing, w_and_text, w_and_lists, w_and_nested, w_and_not, w_and_or, w_and_and, w_and_less, w_and_any, w_and_nothing, w_less_text, w_less_lists, w_less_nested, w_less_not, w_less_or, w_less_and, w_less_less, w_less_any, w_less_nothing, w_nothing_list, w_text_list, w_list_text, w_list_list, w_list_nothing, decide_true, decide_false, Bool.false_eq_true, if_false, if_true]
      refine ⟨_, rfl, by rw [List.length_map]; omega, fun j acc ω3 => acc = (rows.take j).map (fun row => PyData.bool (row.getD k false)) ∧ ω3 = ω2, ⟨rfl, rfl⟩, ?_, ?_⟩
      · rintro j y acc ω3 hy ⟨rfl, rfl⟩ _
        rw [List.getElem?_map] at hy
        obtain ⟨row, h2, rfl⟩ := Option.map_eq_some_iff.mp hy
        have hr := rw_ row (List.mem_of_getElem? h2)
        simp only [dAnd, dAndV, dAsg, dC, dCB, dCall, dCallX, dChain, dCons, dDrop, dErr1, dIf, dIfS, dIsi, dLst, dNext, dNil, dNot, dNotV, dOp, dOr, dOrV, dPar, dRet, dRetN, dRetS, dSeq, dSet, dSl, dTest, dTup, dVar, dgCons, dgName, dgNil, dgTup, dNeg, endsD, xcOf, dFz, startD, wipeD, List.getElem?_cons_zero, List.getElem?_cons_succ, List.set_cons_zero, List.set_cons_succ, List.map_cons, List.map_nil, List.cons_append, List.nil_append, List.length_cons, List.length_nil, List.replicate]
        simp only [if_true]
        refine ⟨_, rfl, ?_⟩
        refine ⟨_, told_at (by omega), ?_, by trivial⟩
        rw [← tk_snoc h2, List.map_append]
        rfl
      · rintro acc ω3 _ ⟨rfl, rfl⟩
        rw [List.length_map, List.take_length]
        refine ⟨_, rows.map (fun row => row.getD k false), rfl, by simp only [rsv, List.map_map]; rfl, fin _ ?_, by trivial⟩
        simp only [fillB, List.all_map]
        rfl
    | _ =>
      simp only [ndD, ixD, rsv]
      refine ⟨_, rfl, ?_⟩
      simp only [eqD, w_any_text, w_any_lists, w_any_nested, w_any_not, w_any_or, w_any_and, w_any_less, w_any_any, w_any_nothing, w_never_text, w_never_lists, w_never_nested, w_never_not, w_never_or, w_never_and, w_never_less, w_never_any, w_never_nothing, w_nothing_text, w_nothing_lists, w_nothing_nested, w_nothing_not, w_nothing_or, w_nothing_and, w_nothing_less, w_nothing_any, w_nothing_nothing, w_text_text, w_text_lists, w_text_nested, w_text_not, w_text_or, w_text_and, w_text_less, w_text_any, w_text_nothing, w_lists_text, w_lists_lists, w_lists_nested, w_lists_not, w_lists_or, w_lists_and, w_lists_less, w_lists_any, w_lists_nothing, w_nested_text, w_nested_lists, w_nested_nested, w_nested_not, w_nested_or, w_nested_and, w_nested_less, w_nested_any, w_nested_nothing, w_not_text, w_not_lists, w_not_nested, w_not_not, w_not_or, w_not_and, w_not_less, w_not_any, w_not_nothing, w_or_text, w_or_lists, w_or_nested, w_or_not, w_or_or, w_or_and, w_or_less, w_or_any, w_or_nothing, w_and_text, w_and_lists, w_and_nested, w_and_not, w_and_or, w_and_and, w_and_less, w_and_any, w_and_nothing, w_less_text, w_less_lists, w_less_nested, w_less_not, w_less_or, w_less_and, w_less_less, w_less_any, w_less_nothing, w_nothing_list, w_text_list, w_list_text, w_list_list, w_list_nothing, decide_true, decide_false, Bool.false_eq_true, if_false, if_true]
      exact ⟨fin false rfl, by trivial⟩
  · rintro acc ω2 _ ⟨rfl, rfl⟩
    rw [List.length_map, List.take_length]
    refine ⟨c, so, n, c.map (fillB rows), ?_, by rw [List.length_map], co, z⟩
    rw [List.map_map]
    rfl
theorem dd_vt (h : Has K mg "value_truths" sVT) (B : Bi mg) (D_truths : Dfn P w K mg base CX0 3 "truths" ["code", "sort", "count", "rows"] (spD K dsTruths)) : ∀ n, Dfn P w K mg base CX0 (n + 3) "value_truths" ["code", "value"] (spD K (dsVT n))
  | 0 => (dfnD_none h (fun _ _ _ _ _ _ us hl => match us, hl with | [_, _], _ => rfl) fun ts ω q xx z => by
    obtain ⟨c, v, _, _, _, z, _⟩ := z
    omega).mono (by omega)
  | n + 1 => by
    have D_value_truths := dd_vt h B D_truths n
    refine dfnD (k := n + 3) h B scVT (fun _ _ _ _ _ _ us hl => match us, hl with | [_, _], _ => rfl) (fun ts ω q xx h => ?_) (fun f cv A out s H E c => ⟨_, (dss_cons (ds_if (dt_cmp (do_is rfl) (de_var (pv 1)) de_non (nomark _)) (dss_one (ds_ret (de_d D_truths c (by omega) (by rfl) (da_cons (de_var (pv 0)) (da_cons de_str (da_cons de_int (da_cons (de_lst da_nil) da_nil))))))) dss_nil)
    (dss_cons (ds_if (dt_val (de_isi (T := "str") rfl kit_str (by rfl) c.b.isinstance (de_var (pv 1)) (pe_bltn (v := .ty "str") (by rfl) c.b.str (by decide +kernel) rfl))) (dss_one (ds_ret (de_d D_truths c (by omega) (by rfl) (da_cons (de_var (pv 0)) (da_cons de_str (da_cons (de_callB (dc_len rfl) (by rfl) c.b.len (by decide +kernel) (da_cons (de_var (pv 1)) da_nil)) (da_cons (de_lst da_nil) da_nil))))))) dss_nil)
    (dss_one (ds_ret (de_d D_truths c (by omega) (by rfl) (da_cons (de_var (pv 0)) (da_cons de_str (da_cons (de_callB (dc_len rfl) (by rfl) c.b.len (by decide +kernel) (da_cons (de_var (pv 1)) da_nil)) (da_cons (de_lc (own := [("one", 2)]) (gd := (dgName 2)) (is := [2]) (tt := dYes) rfl scVT.nd (di_data rfl (de_var (pv 1))) (blkOk_by (own := [("one", 2)]) (N := ["code", "value", "one"]) (sc := defScope sVT) (by decide +kernel)) (fun _ _ _ _ _ => (dg_name (pg_name (i := 2) scVT.nd rfl (Or.inl rfl)))) (fun _ _ _ _ _ => dts_nil) (fun _ _ _ _ _ => (de_d D_value_truths c (by omega) (by rfl) (da_cons (de_var (pv 0)) (da_cons (de_var (pv 2)) da_nil))))) da_nil))))))))), fun ts ω q xx z => ?_⟩)
    · obtain ⟨c, v, rfl, _⟩ := h
      rfl
    obtain ⟨c, v, rfl, co, val, dn, sz, z⟩ := z
    have sl : 1000000 ≤ sizeLine := by decide
    cases v with
    | none => exact ⟨rfl, iteT ⟨by decide, c, .no, 0, [], rfl, by simp, by simp, co, z⟩⟩
    | str x =>
      simp only [szD] at sz
      refine ⟨rfl, iteF ⟨trivial, iteT ⟨by omega, by decide, ?_⟩⟩⟩
      exact ⟨c, .tx, x.length, [], rfl, by simp, by simp, co, z⟩
    | list xs =>
      simp only [szD] at sz
      simp only [isVal] at val
      simp only [PyData.depth] at dn
      have hl := len_le_szAll xs
      refine ⟨rfl, iteF ⟨trivial, iteF ?_⟩⟩
      refine ⟨_, rfl, by omega, fun i acc ω2 => acc = (xs.take i).map (fun x => bsD (vt c x)) ∧ ω2 = ω, ⟨rfl, rfl⟩, ?_, ?_⟩
      · rintro i y acc ω2 hy ⟨rfl, rfl⟩ _
        have hm := List.mem_of_getElem? hy
        have dm := depth_mem hm
        have sm := szD_mem hm
        simp only [dAnd, dAndV, dAsg, dC, dCB, dCall, dCallX, dChain, dCons, dDrop, dErr1, dIf, dIfS, dIsi, dLst, dNext, dNil, dNot, dNotV, dOp, dOr, dOrV, dPar, dRet, dRetN, dRetS, dSeq, dSet, dSl, dTest, dTup, dVar, dgCons, dgName, dgNil, dgTup, dNeg, endsD, xcOf, dFz, startD, wipeD, List.getElem?_cons_zero, List.getElem?_cons_succ, List.set_cons_zero, List.set_cons_succ, List.map_cons, List.map_nil, List.cons_append, List.nil_append, List.length_cons, List.length_nil, List.replicate]
        unfold dYes
        simp only [dAnd, dAndV, dAsg, dC, dCB, dCall, dCallX, dChain, dCons, dDrop, dErr1, dIf, dIfS, dIsi, dLst, dNext, dNil, dNot, dNotV, dOp, dOr, dOrV, dPar, dRet, dRetN, dRetS, dSeq, dSet, dSl, dTest, dTup, dVar, dgCons, dgName, dgNil, dgTup, dNeg, endsD, xcOf, dFz, startD, wipeD, List.getElem?_cons_zero, List.getElem?_cons_succ, List.set_cons_zero, List.set_cons_succ, List.map_cons, List.map_nil, List.cons_append, List.nil_append, List.length_cons, List.length_nil, List.replicate]
        simp only [if_true]
        refine ⟨c, y, rfl, co, isValAll_iff.mp val y hm, by omega, by omega, ?_⟩
        rw [← tk_snoc hy, List.map_append]
        exact ⟨rfl, rfl⟩
      · rintro acc ω2 _ ⟨rfl, rfl⟩
        rw [List.take_length]
        refine ⟨c, .ls, xs.length, vtAll c xs, ?_, by rw [vtAll_map, List.length_map]; omega, fun row hr => ?_, co, z⟩
        · rw [vtAll_map, List.map_map]
          rfl
        · rw [vtAll_map] at hr
          obtain ⟨x, _, rfl⟩ := List.mem_map.mp hr
          exact vt_len c x
    | bool _ => simp [isVal] at val
    | int _ => simp [isVal] at val
    | tuple _ => simp [isVal] at val
    | dict _ => simp [isVal] at val
end
end Tx

namespace Tx
open PySem PySem.Spec PyProof.Rows L2
/-! ## the class Shape -/
/-- a constant of a class -/
def ClsC (K : PySem.W.Frag) (C : Addr) (f : Str) (d : PyData) : Prop := ∃ mc v u, ClX.CRead K C mc ∧ ClX.CVal K C mc f v u ∧ ∀ J, Rp K J v d
theorem cread {K : PySem.W.Frag} {C : Addr} (rd : PySem.W.readsIn K C (.type "type") = true) : ClX.CRead K C (.type "type") := by
  refine ⟨rd, ?_⟩
  have h := rd
  unfold PySem.W.readsIn at h
  simp only [Bool.and_eq_true] at h
  unfold PySem.W.specialIn
  rw [beq_iff_eq.mp h.1.1.1.2, Option.bind_some]
  exact beq_iff_eq.mp h.1.1.2
theorem de_cval {W : WX} {X : Cx} {K : PySem.W.Frag} {C : Addr} {f : Str} {e : Expr} {pos : Pos} {d : PyData} (hK : X.K = K) (he : PE X e (tC (.ref C))) (c : ClsC K C f d) (hb : attributeBase e f X.env (eval e X.env) = eval e X.env := by rfl) : DE W X K (.Attribute e f pos) (dC d) := by
  subst hK
  obtain ⟨mc, v, u, r, cv, rp⟩ := c
  exact de_pe (ClX.pe_cval he hb) fun σ H J ω ρ q x Q w s cq cx z => ⟨C, mc, v, u, rfl, r, cv, cq.now w z (rp J)⟩
structure OS (K : PySem.W.Frag) (mg : Str → Option Value) (C : Addr) : Prop where
  cd : ClsD K mg "Shape" C
  na : NoAttr K C "code"
  k_LETTERS : ClsC K C "LETTERS" (.int 3)
theorem os_of {K : PySem.W.Frag} {mg : Str → Option Value} {C : Addr} {t : Tok} (cd : ClsD K mg "Shape" C) (na : PySem.W.findIn K (.ref C) "code" = some none) (rd : PySem.W.readsIn K C (.type "type") = true) (lt : PySem.W.findCls K (.ref C) (.type "type") "LETTERS" = some (.val (.int 3 t))) : OS K mg C :=
  ⟨cd, na, ⟨_, .int 3, _, cread rd, ⟨lt, ⟨t, rfl⟩⟩, fun _ => .int 3⟩⟩
abbrev shpM (C dx : Addr) (c : List Nd) : MO := .ins C dx [("code", codeD c)]
/-- 0 self, 1 code -/
abbrev sSInit : Stmt := inClass (top 19) 1
theorem scSInit : FnScope ["self", "code"] ["self", "code"] (defScope sSInit) := ⟨rfl, rfl, rfl, by decide +kernel, rfl, by decide +kernel, by decide +kernel⟩
/-- 0 cls -/
abbrev sKEvery : Stmt := inClass (top 19) 2
theorem scKEvery : FnScope ["cls"] ["cls"] (defScope sKEvery) := ⟨rfl, rfl, rfl, by decide +kernel, rfl, by decide +kernel, by decide +kernel⟩
/-- 0 cls -/
abbrev sKNever : Stmt := inClass (top 19) 3
theorem scKNever : FnScope ["cls"] ["cls"] (defScope sKNever) := ⟨rfl, rfl, rfl, by decide +kernel, rfl, by decide +kernel, by decide +kernel⟩
/-- 0 cls -/
abbrev sKNothing : Stmt := inClass (top 19) 4
theorem scKNothing : FnScope ["cls"] ["cls"] (defScope sKNothing) := ⟨rfl, rfl, rfl, by decide +kernel, rfl, by decide +kernel, by decide +kernel⟩
/-- 0 cls, 1 least, 2 most -/
abbrev sKTexts : Stmt := inClass (top 19) 5
theorem scKTexts : FnScope ["cls", "least", "most"] ["cls", "least", "most"] (defScope sKTexts) := ⟨rfl, rfl, rfl, by decide +kernel, rfl, by decide +kernel, by decide +kernel⟩
/-- 0 cls, 1 shape -/
abbrev sKLists : Stmt := inClass (top 19) 6
theorem scKLists : FnScope ["cls", "shape"] ["cls", "shape"] (defScope sKLists) := ⟨rfl, rfl, rfl, by decide +kernel, rfl, by decide +kernel, by decide +kernel⟩
/-- 0 cls, 1 shape, 2 many -/
abbrev sKNested : Stmt := inClass (top 19) 7
theorem scKNested : FnScope ["cls", "shape", "many"] ["cls", "shape"] (defScope sKNested) := ⟨rfl, rfl, rfl, by decide +kernel, rfl, by decide +kernel, by decide +kernel⟩
def dsSInit (C : Addr) : DSp := fun ts ω q _ => ∃ a dx t, ts = [refD a, t] ∧ ω a = some (.ins C dx []) ∧ q .none (updW ω a (.ins C dx [("code", t)]))
def dsLeaf (C : Addr) (nd : Nd) : DSp := fun ts ω q _ => ts = [refD C] ∧ ∀ m dx, ω m = none → q (refD m) (updW ω m (shpM C dx [nd]))
def dsTexts (C : Addr) : DSp := fun ts ω q _ => ∃ lo hi, ts = [refD C, .int lo, hiD hi] ∧ ∀ m dx, ω m = none → q (refD m) (updW ω m (shpM C dx [.text lo hi]))
def dsLists (C : Addr) : DSp := fun ts ω q _ => ∃ a dx c, ts = [refD C, refD a] ∧ ω a = some (shpM C dx c) ∧ c ≠ [] ∧ c.length ≤ 100000 ∧ ∀ m dx, ω m = none → q (refD m) (updW ω m (shpM C dx (c ++ [.lists (c.length - 1)])))
def dsNested (C : Addr) : DSp := fun ts ω q _ => ∃ a dx c, ts = [refD C, refD a] ∧ ω a = some (shpM C dx c) ∧ c ≠ [] ∧ c.length ≤ 100000 ∧ ∀ m dx, ω m = none → q (refD m) (updW ω m (shpM C dx (c ++ [.lists (c.length + 1), .nested (c.length - 1)])))
theorem rd0 {K : PySem.W.Frag} : ∀ J, RpAll K J [] [] := fun _ => .nil
theorem rd1 {K : PySem.W.Frag} : ∀ J, RpAll K J [V.non] [PyData.none] := fun _ => .cons .non .nil
theorem rd2 {K : PySem.W.Frag} : ∀ J, RpAll K J [V.int 0, V.non] [PyData.int 0, PyData.none] := fun _ => .cons (.int 0) (.cons .non .nil)
section
variable {P : Program} {w : World} {K : PySem.W.Frag} {mg : Str → Option Value} {base : Heap} {C : Addr}
theorem m_sinit (xc : OS K mg C) (h : HasM K C "__init__" "Shape.__init__" sSInit) (B : Bi mg) : Mfn P w K mg base CX0 1 C "__init__" ["self", "code"] (spD K (dsSInit C)) := by
  refine mfnD (k := 0) h B scSInit (fun _ _ _ _ _ _ us hl => match us, hl with | [_, _], _ => rfl) (fun ts ω q xx h => ?_) (fun f cv A out s H E c => ⟨_, (dss_one (ds_fld rfl (de_var (pv 0)) (de_var (pv 1)))), fun ts ω q xx z => ?_⟩)
  · obtain ⟨a, dx, t, rfl, _⟩ := h
    rfl
  obtain ⟨a, dx, t, rfl, ea, z⟩ := z
  exact ⟨a, C, dx, [], rfl, ea, xc.cd.cl, xc.na, by decide, z⟩
theorem k_every (xc : OS K mg C) (h : HasK K C "every" "Shape.every" sKEvery []) (B : Bi mg) (M_init : Mfn P w K mg base CX0 1 C "__init__" ["self", "code"] (spD K (dsSInit C))) : Kfn P w K mg base CX0 3 C "every" ["cls"] [] (spD K (dsLeaf C .any)) := by
  refine kfnD (k := 2) h B scKEvery (bd0 (fun _ _ _ _ _ _ us hl => match us, hl with | [_], _ => rfl)) (fun ts ω q xx h => ?_) (fun f cv A out s H E c => ⟨_, (dss_one (ds_ret (de_makeL (i := 0) rfl xc.cd M_init c (by omega) rfl (Or.inl rfl) px0 (da_cons (de_tup (da_cons (de_tup (da_cons de_str da_nil)) da_nil)) da_nil)))), fun ts ω q xx z => ?_⟩)
  · obtain ⟨rfl, _⟩ := h
    rfl
  obtain ⟨rfl, z⟩ := z
  refine ⟨rfl, by decide, by decide, fun a dx ha => ⟨a, dx, _, rfl, updW_same, rfl, ?_⟩⟩
  rw [updW_updW]
  exact z a dx ha
theorem k_never (xc : OS K mg C) (h : HasK K C "never" "Shape.never" sKNever []) (B : Bi mg) (M_init : Mfn P w K mg base CX0 1 C "__init__" ["self", "code"] (spD K (dsSInit C))) : Kfn P w K mg base CX0 3 C "never" ["cls"] [] (spD K (dsLeaf C .never)) := by
  refine kfnD (k := 2) h B scKNever (bd0 (fun _ _ _ _ _ _ us hl => match us, hl with | [_], _ => rfl)) (fun ts ω q xx h => ?_) (fun f cv A out s H E c => ⟨_, (dss_one (ds_ret (de_makeL (i := 0) rfl xc.cd M_init c (by omega) rfl (Or.inl rfl) px0 (da_cons (de_tup (da_cons (de_tup (da_cons de_str da_nil)) da_nil)) da_nil)))), fun ts ω q xx z => ?_⟩)
  · obtain ⟨rfl, _⟩ := h
    rfl
  obtain ⟨rfl, z⟩ := z
  refine ⟨rfl, by decide, by decide, fun a dx ha => ⟨a, dx, _, rfl, updW_same, rfl, ?_⟩⟩
  rw [updW_updW]
  exact z a dx ha
theorem k_nothing (xc : OS K mg C) (h : HasK K C "nothing" "Shape.nothing" sKNothing []) (B : Bi mg) (M_init : Mfn P w K mg base CX0 1 C "__init__" ["self", "code"] (spD K (dsSInit C))) : Kfn P w K mg base CX0 3 C "nothing" ["cls"] [] (spD K (dsLeaf C .nothing)) := by
  refine kfnD (k := 2) h B scKNothing (bd0 (fun _ _ _ _ _ _ us hl => match us, hl with | [_], _ => rfl)) (fun ts ω q xx h => ?_) (fun f cv A out s H E c => ⟨_, (dss_one (ds_ret (de_makeL (i := 0) rfl xc.cd M_init c (by omega) rfl (Or.inl rfl) px0 (da_cons (de_tup (da_cons (de_tup (da_cons de_str da_nil)) da_nil)) da_nil)))), fun ts ω q xx z => ?_⟩)
  · obtain ⟨rfl, _⟩ := h
    rfl
  obtain ⟨rfl, z⟩ := z
  refine ⟨rfl, by decide, by decide, fun a dx ha => ⟨a, dx, _, rfl, updW_same, rfl, ?_⟩⟩
  rw [updW_updW]
  exact z a dx ha
/-- texts(..), with what fills up -/
theorem k_texts (xc : OS K mg C) (h : HasK K C "texts" "Shape.texts" sKTexts [V.int 0, V.non]) (B : Bi mg) (M_init : Mfn P w K mg base CX0 1 C "__init__" ["self", "code"] (spD K (dsSInit C))) (j : Nat) (hj : j ≤ 2) : Kfn P w K mg base CX0 3 C "texts" ["cls", "least", "most"] ([V.int 0, V.non].drop j) (spD K (dsTexts C)) := by
  refine kfnD (k := 2) h B scKTexts (fun g fd F => ?_) (fun ts ω q xx h => ?_) (fun f cv A out s H E c => ⟨_, (dss_one (ds_ret (de_makeL (i := 0) rfl xc.cd M_init c (by omega) rfl (Or.inl rfl) px0 (da_cons (de_tup (da_cons (de_tup (da_cons de_str (da_cons (de_var (pv 1)) (da_cons (de_var (pv 2)) da_nil)))) da_nil)) da_nil)))), fun ts ω q xx z => ?_⟩)
  · match j, hj with
    | 0, _ => exact F.binds1 1 0 (by simp) rfl fun T kV doc pm an cdv ct us its h1 h2 => match us, its, h1, h2 with
      | [_], [_, _], _, _ => ⟨_, rfl, rfl⟩
    | 1, _ => exact F.binds1 2 1 (by simp) rfl fun T kV doc pm an cdv ct us its h1 h2 => match us, its, h1, h2 with
      | [_, _], [_, _], _, _ => ⟨_, rfl, rfl⟩
    | 2, _ => exact F.binds1 3 2 (by simp) rfl fun T kV doc pm an cdv ct us its h1 h2 => match us, its, h1, h2 with
      | [_, _, _], [_, _], _, _ => ⟨_, rfl, rfl⟩
  · obtain ⟨lo, hi, rfl, _⟩ := h
    rfl
  obtain ⟨lo, hi, rfl, z⟩ := z
  refine ⟨rfl, by show 3 ≤ sizeLine; decide, by show 1 ≤ sizeLine; decide, fun a dx ha => ⟨a, dx, _, rfl, updW_same, rfl, ?_⟩⟩
  rw [updW_updW]
  exact z a dx ha
theorem k_lists (xc : OS K mg C) (h : HasK K C "lists" "Shape.lists" sKLists []) (B : Bi mg) (M_init : Mfn P w K mg base CX0 1 C "__init__" ["self", "code"] (spD K (dsSInit C))) : Kfn P w K mg base CX0 3 C "lists" ["cls", "shape"] [] (spD K (dsLists C)) := by
  refine kfnD (k := 2) h B scKLists (bd0 (fun _ _ _ _ _ _ us hl => match us, hl with | [_, _], _ => rfl)) (fun ts ω q xx h => ?_) (fun f cv A out s H E c => ⟨_, (dss_one (ds_ret (de_makeL (i := 0) rfl xc.cd M_init c (by omega) rfl (Or.inl rfl) px0 (da_cons (de_tup (da_star rfl (de_fld rfl (de_var (pv 1))) (da_cons (de_tup (da_cons de_str (da_cons (de_op (do_sub rfl) (de_callB (dc_len rfl) (by rfl) c.b.len (by decide +kernel) (da_cons (de_fld rfl (de_var (pv 1))) da_nil)) de_int) da_nil))) da_nil))) da_nil)))), fun ts ω q xx z => ?_⟩)
  · obtain ⟨a, dx, c, rfl, _⟩ := h
    rfl
  obtain ⟨a, dx, c, rfl, ea, ne, cl, z⟩ := z
  have sl : 200000 ≤ sizeLine := by decide
  have c0 : 0 < c.length := List.length_pos_iff.mpr ne
  refine ⟨rfl, a, C, dx, _, _, rfl, ea, xc.cd.cl, xc.na, rfl, c.map ndD, .inl rfl, a, C, dx, _, _, rfl, ea, xc.cd.cl, xc.na, rfl, trivial, by show 2 ≤ sizeLine; omega, ?_, fun m dm hm => ⟨m, dm, _, rfl, updW_same, rfl, ?_⟩⟩
  · rw [List.length_append, List.length_map]
    show c.length + 1 ≤ sizeLine
    omega
  rw [updW_updW]
  have e : (PyData.tuple (c.map ndD ++ [.tuple [.str "lists", .int ((((c.map ndD).length : Nat) : Int) - 1)]])) = codeD (c ++ [.lists (c.length - 1)]) := by
    unfold codeD
    rw [List.map_append, List.length_map]
    simp only [List.map_cons, List.map_nil, ndD]
    rw [show ((c.length : Int) - 1) = ((c.length - 1 : Nat) : Int) by omega]
  exact e ▸ z m dm hm
theorem k_nested (xc : OS K mg C) (h : HasK K C "nested" "Shape.nested" sKNested []) (B : Bi mg) (M_init : Mfn P w K mg base CX0 1 C "__init__" ["self", "code"] (spD K (dsSInit C))) : Kfn P w K mg base CX0 3 C "nested" ["cls", "shape"] [] (spD K (dsNested C)) := by
  refine kfnD (k := 2) h B scKNested (bd0 (fun _ _ _ _ _ _ us hl => match us, hl with | [_, _], _ => rfl)) (fun ts ω q xx h => ?_) (fun f cv A out s H E c => ⟨_, (dss_cons (ds_set (i := 2) scKNested.nd rfl (Or.inl rfl) (de_callB (dc_len rfl) (by rfl) c.b.len (by decide +kernel) (da_cons (de_fld rfl (de_var (pv 1))) da_nil)))
    (dss_one (ds_ret (de_makeL (i := 0) rfl xc.cd M_init c (by omega) rfl (Or.inl rfl) px0 (da_cons (de_tup (da_star rfl (de_fld rfl (de_var (pv 1))) (da_cons (de_tup (da_cons de_str (da_cons (de_op (do_add rfl) (de_var (pv 2)) de_int) da_nil))) (da_cons (de_tup (da_cons de_str (da_cons (de_op (do_sub rfl) (de_var (pv 2)) de_int) da_nil))) da_nil)))) da_nil))))), fun ts ω q xx z => ?_⟩)
  · obtain ⟨a, dx, c, rfl, _⟩ := h
    rfl
  obtain ⟨a, dx, c, rfl, ea, ne, cl, z⟩ := z
  have sl : 200000 ≤ sizeLine := by decide
  have c0 : 0 < c.length := List.length_pos_iff.mpr ne
  refine ⟨a, C, dx, _, _, rfl, ea, xc.cd.cl, xc.na, rfl, rfl, a, C, dx, _, _, rfl, ea, xc.cd.cl, xc.na, rfl, c.map ndD, .inl rfl, by show 2 ≤ sizeLine; omega, trivial, by show 2 ≤ sizeLine; omega, ?_, fun m dm hm => ⟨m, dm, _, rfl, updW_same, rfl, ?_⟩⟩
  · rw [List.length_append, List.length_map]
    show c.length + 2 ≤ sizeLine
    omega
  rw [updW_updW]
  have e : (PyData.tuple (c.map ndD ++ [.tuple [.str "lists", .int ((((c.map ndD).length : Nat) : Int) + 1)], .tuple [.str "nested", .int ((((c.map ndD).length : Nat) : Int) - 1)]])) = codeD (c ++ [.lists (c.length + 1), .nested (c.length - 1)]) := by
    unfold codeD
    rw [List.map_append, List.length_map]
    simp only [List.map_cons, List.map_nil, ndD]
    rw [show ((c.length : Int) - 1) = ((c.length - 1 : Nat) : Int) by omega, show ((c.length : Int) + 1) = ((c.length + 1 : Nat) : Int) by omega]
  exact e ▸ z m dm hm
end
end Tx

namespace Tx
open PySem PySem.Spec PyProof.Rows L2
/-! ## text * number; int(..); is_value; in of a shape -/
theorem op_rep_none {X : Cx} : OpR X (binaryOp .Mult) (fun x y H Q => ∃ (z : Str) (n : Int), x = .str z ∧ y = .int n ∧ n < 1 ∧ -1000 ≤ n ∧ Q (.str Str.empty) H) := by
  intro pins s σ H x y v u Q I rx ry ask
  obtain ⟨z, n, rfl, rfl, n0, n1, q⟩ := ask
  obtain ⟨t, rfl⟩ := rx
  obtain ⟨t', rfl⟩ := ry
  have hok : MulOk z n := by
    refine ⟨?_, fun h _ => absurd n0 h, fun h _ => absurd n0 h⟩
    simp only [Bool.or_eq_false_iff, decide_eq_false_iff_not]
    omega
  have e : Txt.mul z n = Str.empty := by
    unfold Txt.mul
    rw [if_pos n0]
  refine SB.mul hok fun t2 k => ?_
  exact ⟨.str (Txt.mul z n), H, I.tok k, ⟨t2, rfl⟩, by rw [e]; exact q⟩
def mulSD : RD2 := fun x y _ Q => match x, y with
  | .int i, .int j => CMul i j ∧ Q (.int (i * j))
  | .str z, .int n => -1000 ≤ n ∧ n ≤ 1000 ∧ z.length ≤ 1000 ∧ ∀ u : Str, (∀ c ∈ u.cps.toList, c ∈ z.cps.toList) → u.length ≤ z.length * n.toNat → Q (.str u)
  | _, _ => False
def intOD : RD1 := fun xs _ Q => match xs with
  | [.int i] => Q (.int i)
  | [.bool b] => Q (.int (if b then 1 else 0))
  | _ => False
section
variable {X : Cx} {K : PySem.W.Frag}
theorem do_mulS (hK : X.K = K) : OpR X (binaryOp .Mult) (lift2 K mulSD) := by
  subst hK
  intro pins s σ H x y v u Q I rx ry ⟨J, ω, dx, dy, q, w, hx, hy, c, z⟩
  unfold mulSD at z
  split at z
  · rename_i i j
    cases hx
    cases hy
    exact op_mul pins s σ H _ _ v u Q I rx ry ⟨i, j, rfl, rfl, z.1, c.now w z.2 (.int _)⟩
  · rename_i t n
    cases hx
    cases hy
    by_cases h : n < 1
    · exact op_rep_none pins s σ H _ _ v u Q I rx ry ⟨t, n, rfl, rfl, h, z.1, c.now w (z.2.2.2 _ (fun c hc => by simp [Str.empty] at hc) (by show 0 ≤ _; omega)) (.str _)⟩
    · exact op_rep_str pins s σ H _ _ v u Q I rx ry ⟨t, n, rfl, rfl, by omega, z.2.1, z.2.2.1, fun u h1 h2 => c.now w (z.2.2.2 u h1 h2) (.str _)⟩
  · exact False.elim z
theorem dc_int (hK : X.K = K) : CallR X (.type "int") (liftA K intOD) := by
  subst hK
  intro pins s σ H xs us Q I rv ⟨J, ω, ds, q, w, rs, c, z⟩
  unfold intOD at z
  split at z
  · cases rs with
    | cons r1 r2 =>
    cases r1
    cases r2
    exact call_int1 pins s σ H _ us Q I rv (.inl ⟨_, rfl, c.now w z (.int _)⟩)
  · cases rs with
    | cons r1 r2 =>
    cases r1
    cases r2
    exact call_int1 pins s σ H _ us Q I rv (.inr ⟨_, rfl, c.now w z (.int _)⟩)
  · exact False.elim z
end
theorem nd_mono {nd : Nd} {i j : Nat} (h : nd.at i) (hij : i ≤ j) : nd.at j := by
  cases nd <;> simp only [Nd.at] at * <;> omega
theorem codeAt_ok : ∀ (s : Shp) (o n : Nat), o + s.len ≤ n → (∀ (i : Nat) (nd : Nd), (codeAt o s)[i]? = some nd → nd.at (o + i)) ∧ ∀ nd : Nd, nd ∈ codeAt o s → nd.in n := by
  have leaf : ∀ (o n : Nat) (nd : Nd), nd.at o → nd.in n → (∀ (i : Nat) (m : Nd), [nd][i]? = some m → m.at (o + i)) ∧ ∀ m : Nd, m ∈ [nd] → m.in n := fun o n nd h1 h2 => by
    refine ⟨fun i m e => ?_, fun m e => ?_⟩
    · match i, e with
      | 0, e => cases e; exact h1
      | i + 1, e => simp at e
    · rw [List.mem_singleton.mp e]; exact h2
  have app : ∀ (o n : Nat) (c d : List Nd), ((∀ (i : Nat) (m : Nd), c[i]? = some m → m.at (o + i)) ∧ ∀ m : Nd, m ∈ c → m.in n) → ((∀ (i : Nat) (m : Nd), d[i]? = some m → m.at (o + c.length + i)) ∧ ∀ m : Nd, m ∈ d → m.in n) → (∀ (i : Nat) (m : Nd), (c ++ d)[i]? = some m → m.at (o + i)) ∧ ∀ m : Nd, m ∈ c ++ d → m.in n := fun o n c d h1 h2 => by
    refine ⟨fun i m e => ?_, fun m e => ?_⟩
    · by_cases hi : i < c.length
      · rw [List.getElem?_append_left hi] at e
        exact h1.1 i m e
      · rw [List.getElem?_append_right (by omega)] at e
        have := h2.1 _ m e
        rw [show o + c.length + (i - c.length) = o + i by omega] at this
        exact this
    · rcases List.mem_append.mp e with e | e
      · exact h1.2 m e
      · exact h2.2 m e
  intro s
  induction s with
  | every => exact fun o n h => leaf o n _ trivial trivial
  | never => exact fun o n h => leaf o n _ trivial trivial
  | nothing => exact fun o n h => leaf o n _ trivial trivial
  | texts lo hi => exact fun o n h => leaf o n _ trivial trivial
  | lists s ih =>
    intro o n h
    simp only [Shp.len] at h
    have := s.len_pos
    refine app o n _ _ (ih o n (by omega)) (leaf _ n _ trivial ?_)
    simp only [Nd.in]
    omega
  | nested s ih =>
    intro o n h
    simp only [Shp.len] at h
    have := s.len_pos
    refine app o n _ _ (ih o n (by omega)) (app _ n [_] [_] (leaf _ n _ trivial ?_) (leaf _ n _ ?_ trivial))
    · simp only [Nd.in]
      omega
    · simp only [Nd.at, codeAt_len, List.length_singleton]
      omega
  | not s ih =>
    intro o n h
    simp only [Shp.len] at h
    have := s.len_pos
    refine app o n _ _ (ih o n (by omega)) (leaf _ n _ ?_ trivial)
    simp only [Nd.at, codeAt_len]
    omega
  | or a b ia ib =>
    intro o n h
    simp only [Shp.len] at h
    have := a.len_pos
    have := b.len_pos
    refine app o n _ _ (app o n _ _ (ia o n (by omega)) (by rw [codeAt_len]; exact ib (o + a.len) n (by omega))) (leaf _ n _ ?_ trivial)
    simp only [Nd.at, List.length_append, codeAt_len]
    omega
  | and a b ia ib =>
    intro o n h
    simp only [Shp.len] at h
    have := a.len_pos
    have := b.len_pos
    refine app o n _ _ (app o n _ _ (ia o n (by omega)) (by rw [codeAt_len]; exact ib (o + a.len) n (by omega))) (leaf _ n _ ?_ trivial)
    simp only [Nd.at, List.length_append, codeAt_len]
    omega
  | less a b ia ib =>
    intro o n h
    simp only [Shp.len] at h
    have := a.len_pos
    have := b.len_pos
    refine app o n _ _ (app o n _ _ (ia o n (by omega)) (by rw [codeAt_len]; exact ib (o + a.len) n (by omega))) (leaf _ n _ ?_ trivial)
    simp only [Nd.at, List.length_append, codeAt_len]
    omega
theorem Shp.ok (s : Shp) (h : s.len ≤ 100000) : CodeOk (codeAt 0 s) := by
  obtain ⟨h1, h2⟩ := codeAt_ok s 0 s.len (by omega)
  refine ⟨fun i nd e => by simpa using h1 i nd e, fun nd hm => by rw [codeAt_len]; exact h2 nd hm, by rw [codeAt_len]; exact h⟩
mutual
theorem val_of : ∀ d : PyData, wrongP d = none → isVal d = true
  | .none, _ => rfl
  | .str x, h => by
    simp only [wrongP] at h
    simp only [isVal]
    cases e : ltr x with
    | true => rfl
    | false => rw [e] at h; cases h
  | .list xs, h => by simp only [wrongP] at h; simp only [isVal]; exact valAll_of xs 0 h
  | .bool _, h => by simp [wrongP] at h
  | .int _, h => by simp [wrongP] at h
  | .tuple _, h => by simp [wrongP] at h
  | .dict _, h => by simp [wrongP] at h
theorem valAll_of : ∀ (xs : List PyData) (i : Nat), wrongAll i xs = none → isValAll xs = true
  | [], _, _ => rfl
  | x :: xs, i, h => by
    simp only [wrongAll] at h
    cases e : wrongP x with
    | some p => rw [e] at h; cases h
    | none =>
      rw [e] at h
      simp only [isValAll, val_of x e, valAll_of xs (i + 1) h, Bool.and_self]
end
mutual
theorem val_to : ∀ d : PyData, isVal d = true → wrongP d = none
  | .none, _ => rfl
  | .str x, h => by simp only [isVal] at h; simp only [wrongP, h, if_true]
  | .list xs, h => by simp only [isVal] at h; simp only [wrongP]; exact valAll_to xs 0 h
  | .bool _, h => by simp [isVal] at h
  | .int _, h => by simp [isVal] at h
  | .tuple _, h => by simp [isVal] at h
  | .dict _, h => by simp [isVal] at h
theorem valAll_to : ∀ (xs : List PyData) (i : Nat), isValAll xs = true → wrongAll i xs = none
  | [], _, _ => rfl
  | x :: xs, i, h => by
    simp only [isValAll, Bool.and_eq_true] at h
    simp only [wrongAll, val_to x h.1, valAll_to xs (i + 1) h.2]
end
/-- 0 thing -/
abbrev sIsValue : Stmt := top 4
theorem scIsValue : FnScope ["thing"] ["thing"] (defScope sIsValue) := ⟨rfl, rfl, rfl, by decide +kernel, rfl, by decide +kernel, by decide +kernel⟩
/-- 0 self, 1 thing -/
abbrev sSContains : Stmt := inClass (top 19) 14
theorem scSContains : FnScope ["self", "thing"] ["self", "thing"] (defScope sSContains) := ⟨rfl, rfl, rfl, by decide +kernel, rfl, by decide +kernel, by decide +kernel⟩
def dsIsValue : DSp := fun ts ω q _ => ∃ d, ts = [d] ∧ Ok d ∧ d.depth < 30 ∧ q (.bool (isVal d)) ω
def dsContains (C : Addr) : DSp := fun ts ω q _ => ∃ a dx s t, ts = [refD a, t] ∧ ω a = some (shpM C dx (codeAt 0 s)) ∧ s.len ≤ 100000 ∧ Ok t ∧ t.depth < 30 ∧ szD t ≤ 1000000 ∧ q (.bool (isVal t && has s t)) ω
section
variable {P : Program} {w : World} {K : PySem.W.Frag} {mg : Str → Option Value} {base : Heap} {C : Addr}
theorem dd_isValue (h : Has K mg "is_value" sIsValue) (B : Bi mg) (D_wrong_place : Dfn P w K mg base CX0 31 "wrong_place" ["thing"] (spD K (dsWrong 30))) : Dfn P w K mg base CX0 32 "is_value" ["thing"] (spD K dsIsValue) := by
  refine dfnD (k := 31) h B scIsValue (fun _ _ _ _ _ _ us hl => match us, hl with | [_], _ => rfl) (fun ts ω q xx h => ?_) (fun f cv A out s H E c => ⟨_, (dss_one (ds_ret (de_cmp (do_is rfl) (de_d D_wrong_place c (by omega) (by rfl) (da_cons (de_var (pv 0)) da_nil)) de_non (nomark _)))), fun ts ω q xx z => ?_⟩)
  · obtain ⟨d, rfl, _⟩ := h
    rfl
  obtain ⟨d, rfl, ok, dn, z⟩ := z
  refine ⟨d, rfl, ok, dn, by decide, rfl, ?_⟩
  cases e : wrongP d with
  | none => rw [val_of d e] at z; exact z
  | some p =>
    have : isVal d = false := by
      cases e2 : isVal d with
      | false => rfl
      | true => rw [val_to d e2] at e; cases e
    rw [this] at z
    exact z
theorem m_scontains (xc : OS K mg C) (h : HasM K C "__contains__" "Shape.__contains__" sSContains) (B : Bi mg) (D_is_value : Dfn P w K mg base CX0 32 "is_value" ["thing"] (spD K dsIsValue)) (D_value_truths : Dfn P w K mg base CX0 33 "value_truths" ["code", "value"] (spD K (dsVT 30))) :
    Mfn P w K mg base CX0 34 C "__contains__" ["self", "thing"] (spD K (dsContains C)) := by
  refine mfnD (k := 33) h B scSContains (fun _ _ _ _ _ _ us hl => match us, hl with | [_, _], _ => rfl) (fun ts ω q xx h => ?_) (fun f cv A out s H E c => ⟨_, (dss_one (ds_ret (de_and (de_d D_is_value c (by omega) (by rfl) (da_cons (de_var (pv 1)) da_nil)) (de_one (de_ix rfl (de_d D_value_truths c (by omega) (by rfl) (da_cons (de_fld rfl (de_var (pv 0))) (da_cons (de_var (pv 1)) da_nil))) (de_neg de_int) (fun _ _ => rfl)))))), fun ts ω q xx z => ?_⟩)
  · obtain ⟨a, dx, s, t, rfl, _⟩ := h
    rfl
  obtain ⟨a, dx, s, t, rfl, ea, sl, ok, dn, sz, z⟩ := z
  refine ⟨t, rfl, ok, dn, ite2 (fun e => ?_) (fun e => ?_)⟩
  · refine ⟨a, C, dx, _, _, rfl, ea, xc.cd.cl, xc.na, rfl, _, t, rfl, s.ok sl, e, dn, sz, ?_⟩
    rw [vt_tr s t e]
    have hl := tr_len s t
    have hp := s.len_pos
    refine ⟨_, told_last (by omega), ?_⟩
    rw [e, Bool.true_and] at z
    have e2 : (tr s t).getLastD false = has s t := by
      rw [← tr_last s t, List.getLastD_eq_getLast?, List.getLast?_eq_getElem?, List.getD_eq_getElem?_getD, hl]
    rw [e2]
    exact z
  · rw [Bool.eq_false_iff.mpr e, Bool.false_and] at z
    exact z
end
end Tx

namespace Tx
open PySem PySem.Spec PyProof.Rows L2
/-! ## the law's shapes: leaves, what is in them -/
/-- 0 _law_bag_here, 1 _law_pick, 2 _law_low, 3 _law_high -/
abbrev sLeaf : Stmt := top 26
theorem scLeaf : FnScope ["_law_bag_here", "_law_pick", "_law_low", "_law_high"] ["_law_bag_here"] (defScope sLeaf) := ⟨rfl, rfl, rfl, by decide +kernel, rfl, by decide +kernel, by decide +kernel⟩
/-- 0 _law_node, 1 _law_value_here, 2 _law_word, 3 _law_one -/
abbrev sLHas : Stmt := top 28
theorem scLHas : FnScope ["_law_node", "_law_value_here", "_law_word", "_law_one"] ["_law_node", "_law_value_here"] (defScope sLHas) := ⟨rfl, rfl, rfl, by decide +kernel, rfl, by decide +kernel, by decide +kernel⟩
theorem w_every_texts : decide (("every" : Str) = "texts") = false := by decide +kernel
theorem w_every_lists : decide (("every" : Str) = "lists") = false := by decide +kernel
theorem w_every_nested : decide (("every" : Str) = "nested") = false := by decide +kernel
theorem w_every_not : decide (("every" : Str) = "not") = false := by decide +kernel
theorem w_every_or : decide (("every" : Str) = "or") = false := by decide +kernel
theorem w_every_and : decide (("every" : Str) = "and") = false := by decide +kernel
theorem w_every_less : decide (("every" : Str) = "less") = false := by decide +kernel
theorem w_every_every : decide (("every" : Str) = "every") = true := by decide +kernel
theorem w_every_nothing : decide (("every" : Str) = "nothing") = false := by decide +kernel
theorem w_never_texts : decide (("never" : Str) = "texts") = false := by decide +kernel
theorem w_never_every : decide (("never" : Str) = "every") = false := by decide +kernel
theorem w_nothing_texts : decide (("nothing" : Str) = "texts") = false := by decide +kernel
theorem w_nothing_every : decide (("nothing" : Str) = "every") = false := by decide +kernel
theorem w_texts_texts : decide (("texts" : Str) = "texts") = true := by decide +kernel
theorem w_texts_lists : decide (("texts" : Str) = "lists") = false := by decide +kernel
theorem w_texts_nested : decide (("texts" : Str) = "nested") = false := by decide +kernel
theorem w_texts_not : decide (("texts" : Str) = "not") = false := by decide +kernel
theorem w_texts_or : decide (("texts" : Str) = "or") = false := by decide +kernel
theorem w_texts_and : decide (("texts" : Str) = "and") = false := by decide +kernel
theorem w_texts_less : decide (("texts" : Str) = "less") = false := by decide +kernel
theorem w_texts_every : decide (("texts" : Str) = "every") = false := by decide +kernel
theorem w_texts_nothing : decide (("texts" : Str) = "nothing") = false := by decide +kernel
theorem w_lists_texts : decide (("lists" : Str) = "texts") = false := by decide +kernel
theorem w_lists_every : decide (("lists" : Str) = "every") = false := by decide +kernel
theorem w_nested_texts : decide (("nested" : Str) = "texts") = false := by decide +kernel
theorem w_nested_every : decide (("nested" : Str) = "every") = false := by decide +kernel
theorem w_not_texts : decide (("not" : Str) = "texts") = false := by decide +kernel
theorem w_not_every : decide (("not" : Str) = "every") = false := by decide +kernel
theorem w_or_texts : decide (("or" : Str) = "texts") = false := by decide +kernel
theorem w_or_every : decide (("or" : Str) = "every") = false := by decide +kernel
theorem w_and_texts : decide (("and" : Str) = "texts") = false := by decide +kernel
theorem w_and_every : decide (("and" : Str) = "every") = false := by decide +kernel
theorem w_less_texts : decide (("less" : Str) = "texts") = false := by decide +kernel
theorem w_less_every : decide (("less" : Str) = "every") = false := by decide +kernel
def hiN : Option Int → PyData
  | none => .int 1000000000
  | some h => .int h
def nodeD : Shp → PyData
  | .every => .tuple [.str "every"]
  | .never => .tuple [.str "never"]
  | .nothing => .tuple [.str "nothing"]
  | .texts lo hi => .tuple [.str "texts", .int lo, hiN hi]
  | .lists s => .tuple [.str "lists", nodeD s]
  | .nested s => .tuple [.str "nested", nodeD s]
  | .not s => .tuple [.str "not", nodeD s]
  | .or a b => .tuple [.str "or", nodeD a, nodeD b]
  | .and a b => .tuple [.str "and", nodeD a, nodeD b]
  | .less a b => .tuple [.str "less", nodeD a, nodeD b]
def Shp.dep : Shp → Nat
  | .lists s => s.dep + 1
  | .nested s => s.dep + 1
  | .not s => s.dep + 1
  | .or a b => max a.dep b.dep + 1
  | .and a b => max a.dep b.dep + 1
  | .less a b => max a.dep b.dep + 1
  | _ => 0
/-- the numbers of letters are small -/
def Shp.low : Shp → Prop
  | .texts lo hi => 0 ≤ lo ∧ lo ≤ 3 ∧ ∀ h, hi = some h → 0 ≤ h ∧ h ≤ 3
  | .lists s => s.low
  | .nested s => s.low
  | .not s => s.low
  | .or a b => a.low ∧ b.low
  | .and a b => a.low ∧ b.low
  | .less a b => a.low ∧ b.low
  | _ => True
def dsLawLeaf (C : Addr) : DSp := fun ts ω q _ => ∃ b : Addr, ts = [refD b] ∧ ω b = some .bag ∧ ∀ s m dx, s.len = 1 → s.dep = 0 → s.low → ω m = none → q (.tuple [refD m, nodeD s]) (updW ω m (shpM C dx (codeAt 0 s)))
/-- the node of a shape; a not may have one thing more -/
inductive Nod : Shp → PyData → Prop
  | node (s : Shp) : Nod s (nodeD s)
  | notx (s : Shp) (e : PyData) : Nod (.not s) (.tuple [.str "not", nodeD s, e])
def dsHas (n : Nat) : DSp := fun ts ω q _ => ∃ s v N, ts = [N, v] ∧ Nod s N ∧ isVal v = true ∧ szD v ≤ 1000000 ∧ s.dep + v.depth < n ∧ q (.bool (has s v)) ω
section
variable {P : Program} {w : World} {K : PySem.W.Frag} {mg : Str → Option Value} {base : Heap} {C : Addr}
theorem dd_leaf (xc : OS K mg C) (h : Has K mg "_law_leaf" sLeaf) (B : Bi mg) (D_law_take : Dfn P w K mg base CX0 1 "_law_take" ["_law_bag_here", "_law_many_here"] (spD K dsTake)) (K_every0 : Kfn P w K mg base CX0 3 C "every" ["cls"] [] (spD K (dsLeaf C .any))) (K_never0 : Kfn P w K mg base CX0 3 C "never" ["cls"] [] (spD K (dsLeaf C .never)))
    (K_nothing0 : Kfn P w K mg base CX0 3 C "nothing" ["cls"] [] (spD K (dsLeaf C .nothing))) (K_texts0 : Kfn P w K mg base CX0 3 C "texts" ["cls", "least", "most"] [V.int 0, V.non] (spD K (dsTexts C))) (K_texts1 : Kfn P w K mg base CX0 3 C "texts" ["cls", "least", "most"] [V.non] (spD K (dsTexts C)))
    (K_texts2 : Kfn P w K mg base CX0 3 C "texts" ["cls", "least", "most"] [] (spD K (dsTexts C))) : Dfn P w K mg base CX0 4 "_law_leaf" ["_law_bag_here"] (spD K (dsLawLeaf C)) := by
  refine dfnD (k := 3) h B scLeaf (fun _ _ _ _ _ _ us hl => match us, hl with | [_], _ => rfl) (fun ts ω q xx h => ?_) (fun f cv A out s H E c => ⟨_, (dss_cons (ds_set (i := 1) scLeaf.nd rfl (Or.inl rfl) (de_d D_law_take c (by omega) (by rfl) (da_cons (de_var (pv 0)) (da_cons de_int da_nil))))
    (dss_cons (ds_if (dt_cmp (do_eq rfl c.r.units) (de_var (pv 1)) de_int (nomark _)) (dss_one (ds_ret (de_tup (da_cons (de_kfn0 rfl (pe_gcl xc.cd.gC (by rfl)) K_every0 rd0 c (by omega) px0) (da_cons (de_tup (da_cons de_str da_nil)) da_nil))))) dss_nil)
    (dss_cons (ds_if (dt_cmp (do_eq rfl c.r.units) (de_var (pv 1)) de_int (nomark _)) (dss_one (ds_ret (de_tup (da_cons (de_kfn0 rfl (pe_gcl xc.cd.gC (by rfl)) K_never0 rd0 c (by omega) px0) (da_cons (de_tup (da_cons de_str da_nil)) da_nil))))) dss_nil)
    (dss_cons (ds_if (dt_cmp (do_eq rfl c.r.units) (de_var (pv 1)) de_int (nomark _)) (dss_one (ds_ret (de_tup (da_cons (de_kfn0 rfl (pe_gcl xc.cd.gC (by rfl)) K_nothing0 rd0 c (by omega) px0) (da_cons (de_tup (da_cons de_str da_nil)) da_nil))))) dss_nil)
    (dss_cons (ds_if (dt_cmp (do_eq rfl c.r.units) (de_var (pv 1)) de_int (nomark _)) (dss_one (ds_ret (de_tup (da_cons (de_kfn0 rfl (pe_gcl xc.cd.gC (by rfl)) K_texts0 rd2 c (by omega) px0) (da_cons (de_tup (da_cons de_str (da_cons de_int (da_cons (de_op (do_pow rfl) de_int de_int) da_nil)))) da_nil))))) dss_nil)
    (dss_cons (ds_par (i := 2) (j := 3) rfl scLeaf.nd rfl rfl (by decide) rfl rfl (da_cons (de_d D_law_take c (by omega) (by rfl) (da_cons (de_var (pv 0)) (da_cons de_int da_nil))) (da_cons (de_d D_law_take c (by omega) (by rfl) (da_cons (de_var (pv 0)) (da_cons de_int da_nil))) da_nil)) (by rfl))
    (dss_cons (ds_if (dt_cmp (do_eq rfl c.r.units) (de_var (pv 1)) de_int (nomark _)) (dss_one (ds_ret (de_tup (da_cons (de_kfn rfl (pe_gcl xc.cd.gC (by rfl)) K_texts1 rd1 c (by omega) px0 (da_cons (de_var (pv 2)) da_nil)) (da_cons (de_tup (da_cons de_str (da_cons (de_var (pv 2)) (da_cons (de_op (do_pow rfl) de_int de_int) da_nil)))) da_nil))))) dss_nil)
    (dss_one (ds_ret (de_tup (da_cons (de_kfn rfl (pe_gcl xc.cd.gC (by rfl)) K_texts2 rd0 c (by omega) px0 (da_cons (de_var (pv 2)) (da_cons (de_var (pv 3)) da_nil))) (da_cons (de_tup (da_cons de_str (da_cons (de_var (pv 2)) (da_cons (de_var (pv 3)) da_nil)))) da_nil)))))))))))), fun ts ω q xx z => ?_⟩)
  · obtain ⟨b, rfl, _⟩ := h
    rfl
  obtain ⟨b, rfl, hb, z⟩ := z
  have s1 : 1 ≤ sizeLine := by decide
  have s2 : 2 ≤ sizeLine := by decide
  have s3 : 3 ≤ sizeLine := by decide
  refine ⟨b, 8, rfl, hb, by decide, by decide, fun r _ _ => ?_⟩
  refine ite2 (fun _ => ⟨rfl, fun m dx hm => ⟨s1, s2, z .every m dx rfl rfl trivial hm⟩⟩) (fun _ => ?_)
  refine ite2 (fun _ => ⟨rfl, fun m dx hm => ⟨s1, s2, z .never m dx rfl rfl trivial hm⟩⟩) (fun _ => ?_)
  refine ite2 (fun _ => ⟨rfl, fun m dx hm => ⟨s1, s2, z .nothing m dx rfl rfl trivial hm⟩⟩) (fun _ => ?_)
  refine ite2 (fun _ => ⟨0, none, rfl, fun m dx hm => ?_⟩) (fun _ => ?_)
  · exact ⟨⟨by decide, by decide, by decide⟩, s3, s2, z (.texts 0 none) m dx rfl rfl ⟨by decide, by decide, fun h e => nomatch e⟩ hm⟩
  refine ⟨b, 4, rfl, hb, by decide, by decide, fun lo l0 l1 => ⟨b, 4, rfl, hb, by decide, by decide, fun hi h0 h1 => ?_⟩⟩
  refine ite2 (fun _ => ⟨lo, none, rfl, fun m dx hm => ?_⟩) (fun _ => ⟨lo, some hi, rfl, fun m dx hm => ?_⟩)
  · exact ⟨⟨by decide, by decide, by decide⟩, s3, s2, z (.texts lo none) m dx rfl rfl ⟨l0, by omega, fun h e => nomatch e⟩ hm⟩
  · exact ⟨s3, s2, z (.texts lo (some hi)) m dx rfl rfl ⟨l0, by omega, fun h e => by cases e; exact ⟨h0, by omega⟩⟩ hm⟩
theorem dd_has (h : Has K mg "_law_has" sLHas) (B : Bi mg) : ∀ n, Dfn P w K mg base CX0 n "_law_has" ["_law_node", "_law_value_here"] (spD K (dsHas n))
  | 0 => dfnD_none h (fun _ _ _ _ _ _ us hl => match us, hl with | [_, _], _ => rfl) fun ts ω q xx z => by
    obtain ⟨s, v, N, _, _, _, _, z, _⟩ := z
    omega
  | n + 1 => by
    have D_law_has := dd_has h B n
    refine dfnD (k := n) h B scLHas (fun _ _ _ _ _ _ us hl => match us, hl with | [_, _], _ => rfl) (fun ts ω q xx h => ?_) (fun f cv A out s H E c => ⟨_, (dss_cons (ds_set (i := 2) scLHas.nd rfl (Or.inl rfl) (de_ix rfl (de_var (pv 0)) de_int (fun _ _ => rfl)))
    (dss_cons (ds_if (dt_cmp (do_eq rfl c.r.units) (de_var (pv 2)) de_str (nomark _)) (dss_one (ds_ret (de_and (de_isi (T := "str") rfl kit_str (by rfl) c.b.isinstance (de_var (pv 1)) (pe_bltn (v := .ty "str") (by rfl) c.b.str (by decide +kernel) rfl)) (de_one (de_chain (do_le rfl) (do_le rfl) (de_ix rfl (de_var (pv 0)) de_int (fun _ _ => rfl)) (de_callB (dc_len rfl) (by rfl) c.b.len (by decide +kernel) (da_cons (de_var (pv 1)) da_nil)) (de_ix rfl (de_var (pv 0)) de_int (fun _ _ => rfl))))))) dss_nil)
    (dss_cons (ds_if (dt_cmp (do_eq rfl c.r.units) (de_var (pv 2)) de_str (nomark _)) (dss_one (ds_ret (de_and (de_isi (T := "list") rfl kit_list (by rfl) c.b.isinstance (de_var (pv 1)) (pe_bltn (v := .ty "list") (by rfl) c.b.list (by decide +kernel) rfl)) (de_one (de_callB (dc_all rfl rfl) (by rfl) c.b.all (by decide +kernel) (da_cons (de_lc (own := [("_law_one", 3)]) (gd := (dgName 3)) (is := [3]) (tt := dYes) rfl scLHas.nd (di_data rfl (de_var (pv 1))) (blkOk_by (own := [("_law_one", 3)]) (N := ["_law_node", "_law_value_here", "_law_word", "_law_one"]) (sc := defScope sLHas) (by decide +kernel)) (fun _ _ _ _ _ => (dg_name (pg_name (i := 3) scLHas.nd rfl (Or.inl rfl)))) (fun _ _ _ _ _ => dts_nil) (fun _ _ _ _ _ => (de_d D_law_has c (by omega) (by rfl) (da_cons (de_ix rfl (de_var (pv 0)) de_int (fun _ _ => rfl)) (da_cons (de_var (pv 3)) da_nil))))) da_nil)))))) dss_nil)
    (dss_cons (ds_if (dt_cmp (do_eq rfl c.r.units) (de_var (pv 2)) de_str (nomark _)) (dss_cons (ds_if (dt_val (de_d D_law_has c (by omega) (by rfl) (da_cons (de_ix rfl (de_var (pv 0)) de_int (fun _ _ => rfl)) (da_cons (de_var (pv 1)) da_nil)))) (dss_one (ds_ret de_bl)) dss_nil)
    (dss_one (ds_ret (de_and (de_isi (T := "list") rfl kit_list (by rfl) c.b.isinstance (de_var (pv 1)) (pe_bltn (v := .ty "list") (by rfl) c.b.list (by decide +kernel) rfl)) (de_one (de_callB (dc_all rfl rfl) (by rfl) c.b.all (by decide +kernel) (da_cons (de_lc (own := [("_law_one", 3)]) (gd := (dgName 3)) (is := [3]) (tt := dYes) rfl scLHas.nd (di_data rfl (de_var (pv 1))) (blkOk_by (own := [("_law_one", 3)]) (N := ["_law_node", "_law_value_here", "_law_word", "_law_one"]) (sc := defScope sLHas) (by decide +kernel)) (fun _ _ _ _ _ => (dg_name (pg_name (i := 3) scLHas.nd rfl (Or.inl rfl)))) (fun _ _ _ _ _ => dts_nil) (fun _ _ _ _ _ => (de_d D_law_has c (by omega) (by rfl) (da_cons (de_var (pv 0)) (da_cons (de_var (pv 3)) da_nil))))) da_nil))))))) dss_nil)
    (dss_cons (ds_if (dt_cmp (do_eq rfl c.r.units) (de_var (pv 2)) de_str (nomark _)) (dss_one (ds_ret (de_not (de_d D_law_has c (by omega) (by rfl) (da_cons (de_ix rfl (de_var (pv 0)) de_int (fun _ _ => rfl)) (da_cons (de_var (pv 1)) da_nil)))))) dss_nil)
    (dss_cons (ds_if (dt_cmp (do_eq rfl c.r.units) (de_var (pv 2)) de_str (nomark _)) (dss_one (ds_ret (de_or (de_d D_law_has c (by omega) (by rfl) (da_cons (de_ix rfl (de_var (pv 0)) de_int (fun _ _ => rfl)) (da_cons (de_var (pv 1)) da_nil))) (de_one (de_d D_law_has c (by omega) (by rfl) (da_cons (de_ix rfl (de_var (pv 0)) de_int (fun _ _ => rfl)) (da_cons (de_var (pv 1)) da_nil))))))) dss_nil)
    (dss_cons (ds_if (dt_cmp (do_eq rfl c.r.units) (de_var (pv 2)) de_str (nomark _)) (dss_one (ds_ret (de_and (de_d D_law_has c (by omega) (by rfl) (da_cons (de_ix rfl (de_var (pv 0)) de_int (fun _ _ => rfl)) (da_cons (de_var (pv 1)) da_nil))) (de_one (de_d D_law_has c (by omega) (by rfl) (da_cons (de_ix rfl (de_var (pv 0)) de_int (fun _ _ => rfl)) (da_cons (de_var (pv 1)) da_nil))))))) dss_nil)
    (dss_cons (ds_if (dt_cmp (do_eq rfl c.r.units) (de_var (pv 2)) de_str (nomark _)) (dss_one (ds_ret (de_and (de_d D_law_has c (by omega) (by rfl) (da_cons (de_ix rfl (de_var (pv 0)) de_int (fun _ _ => rfl)) (da_cons (de_var (pv 1)) da_nil))) (de_one (de_not (de_d D_law_has c (by omega) (by rfl) (da_cons (de_ix rfl (de_var (pv 0)) de_int (fun _ _ => rfl)) (da_cons (de_var (pv 1)) da_nil)))))))) dss_nil)
    (dss_one (ds_ret (de_or (de_cmp (do_eq rfl c.r.units) (de_var (pv 2)) de_str (nomark _)) (de_one (de_and (de_cmp (do_eq rfl c.r.units) (de_var (pv 2)) de_str (nomark _)) (de_one (de_cmp (do_is rfl) (de_var (pv 1)) de_non (nomark _)))))))))))))))), fun ts ω q xx z => ?_⟩)
    · obtain ⟨s, v, N, rfl, _⟩ := h
      rfl
    obtain ⟨s, v, N, rfl, nod, val, sz, dn, z⟩ := z
    have sl : 1000000 ≤ sizeLine := by decide
    cases nod with
    | notx s e =>
      simp only [Shp.dep] at dn
      simp only [dAnd, dAndV, dAsg, dC, dCB, dCall, dCallX, dChain, dCons, dDrop, dErr1, dIf, dIfS, dIsi, dLst, dNext, dNil, dNot, dNotV, dOp, dOr, dOrV, dPar, dRet, dRetN, dRetS, dSeq, dSet, dSl, dTest, dTup, dVar, dgCons, dgName, dgNil, dgTup, dNeg, endsD, xcOf, dFz, startD, wipeD, List.getElem?_cons_zero, List.getElem?_cons_succ, List.set_cons_zero, List.set_cons_succ, List.map_cons, List.map_nil, List.cons_append, List.nil_append, List.length_cons, List.length_nil, List.replicate]
      simp only [ixD, rsv]
      refine ⟨_, rfl, ?_⟩
      simp only [eqD, w_every_texts, w_every_lists, w_every_nested, w_every_not, w_every_or, w_every_and, w_every_less, w_every_every, w_every_nothing, w_never_texts, w_never_lists, w_never_nested, w_never_not, w_never_or, w_never_and, w_never_less, w_never_every, w_never_nothing, w_nothing_texts, w_nothing_lists, w_nothing_nested, w_nothing_not, w_nothing_or, w_nothing_and, w_nothing_less, w_nothing_every, w_nothing_nothing, w_texts_texts, w_texts_lists, w_texts_nested, w_texts_not, w_texts_or, w_texts_and, w_texts_less, w_texts_every, w_texts_nothing, w_lists_texts, w_lists_lists, w_lists_nested, w_lists_not, w_lists_or, w_lists_and, w_lists_less, w_lists_every, w_lists_nothing, w_nested_texts, w_nested_lists, w_nested_nested, w_nested_not, w_nested_or, w_nested_and, w_nested_less, w_nested_every, w_nested_nothing, w_not_texts, w_not_lists, w_not_nested, w_not_not, w_not_or, w_not_and, w_not_less, w_not_every, w_not_nothing, w_or_texts, w_or_lists, w_or_nested, w_or_not, w_or_or, w_or_and, w_or_less, w_or_every, w_or_nothing, w_and_texts, w_and_lists, w_and_nested, w_and_not, w_and_or, w_and_and, w_and_less, w_and_every, w_and_nothing, w_less_texts, w_less_lists, w_less_nested, w_less_not, w_less_or, w_less_and, w_less_less, w_less_every, w_less_nothing, decide_true, decide_false, Bool.false_eq_true, if_false, if_true]
      exact ⟨_, rfl, s, v, _, rfl, .node s, val, sz, by omega, z⟩
    | node s =>
      simp only [dAnd, dAndV, dAsg, dC, dCB, dCall, dCallX, dChain, dCons, dDrop, dErr1, dIf, dIfS, dIsi, dLst, dNext, dNil, dNot, dNotV, dOp, dOr, dOrV, dPar, dRet, dRetN, dRetS, dSeq, dSet, dSl, dTest, dTup, dVar, dgCons, dgName, dgNil, dgTup, dNeg, endsD, xcOf, dFz, startD, wipeD, List.getElem?_cons_zero, List.getElem?_cons_succ, List.set_cons_zero, List.set_cons_succ, List.map_cons, List.map_nil, List.cons_append, List.nil_append, List.length_cons, List.length_nil, List.replicate]
      cases s with
      | every =>
        simp only [nodeD, ixD, rsv]
        refine ⟨_, rfl, ?_⟩
        simp only [eqD, w_every_texts, w_every_lists, w_every_nested, w_every_not, w_every_or, w_every_and, w_every_less, w_every_every, w_every_nothing, w_never_texts, w_never_lists, w_never_nested, w_never_not, w_never_or, w_never_and, w_never_less, w_never_every, w_never_nothing, w_nothing_texts, w_nothing_lists, w_nothing_nested, w_nothing_not, w_nothing_or, w_nothing_and, w_nothing_less, w_nothing_every, w_nothing_nothing, w_texts_texts, w_texts_lists, w_texts_nested, w_texts_not, w_texts_or, w_texts_and, w_texts_less, w_texts_every, w_texts_nothing, w_lists_texts, w_lists_lists, w_lists_nested, w_lists_not, w_lists_or, w_lists_and, w_lists_less, w_lists_every, w_lists_nothing, w_nested_texts, w_nested_lists, w_nested_nested, w_nested_not, w_nested_or, w_nested_and, w_nested_less, w_nested_every, w_nested_nothing, w_not_texts, w_not_lists, w_not_nested, w_not_not, w_not_or, w_not_and, w_not_less, w_not_every, w_not_nothing, w_or_texts, w_or_lists, w_or_nested, w_or_not, w_or_or, w_or_and, w_or_less, w_or_every, w_or_nothing, w_and_texts, w_and_lists, w_and_nested, w_and_not, w_and_or, w_and_and, w_and_less, w_and_every, w_and_nothing, w_less_texts, w_less_lists, w_less_nested, w_less_not, w_less_or, w_less_and, w_less_less, w_less_every, w_less_nothing, decide_true, decide_false, Bool.false_eq_true, if_false, if_true]
        exact z
      | never =>
        simp only [nodeD, ixD, rsv]
        refine ⟨_, rfl, ?_⟩
        simp only [eqD, w_every_texts, w_every_lists, w_every_nested, w_every_not, w_every_or, w_every_and, w_every_less, w_every_every, w_every_nothing, w_never_texts, w_never_lists, w_never_nested, w_never_not, w_never_or, w_never_and, w_never_less, w_never_every, w_never_nothing, w_nothing_texts, w_nothing_lists, w_nothing_nested, w_nothing_not, w_nothing_or, w_nothing_and, w_nothing_less, w_nothing_every, w_nothing_nothing, w_texts_texts, w_texts_lists, w_texts_nested, w_texts_not, w_texts_or, w_texts_and, w_texts_less, w_texts_every, w_texts_nothing, w_lists_texts, w_lists_lists, w_lists_nested, w_lists_not, w_lists_or, w_lists_and, w_lists_less, w_lists_every, w_lists_nothing, w_nested_texts, w_nested_lists, w_nested_nested, w_nested_not, w_nested_or, w_nested_and, w_nested_less, w_nested_every, w_nested_nothing, w_not_texts, w_not_lists, w_not_nested, w_not_not, w_not_or, w_not_and, w_not_less, w_not_every, w_not_nothing, w_or_texts, w_or_lists, w_or_nested, w_or_not, w_or_or, w_or_and, w_or_less, w_or_every, w_or_nothing, w_and_texts, w_and_lists, w_and_nested, w_and_not, w_and_or, w_and_and, w_and_less, w_and_every, w_and_nothing, w_less_texts, w_less_lists, w_less_nested, w_less_not, w_less_or, w_less_and, w_less_less, w_less_every, w_less_nothing, decide_true, decide_false, Bool.false_eq_true, if_false, if_true]
        exact z
      | nothing =>
        simp only [nodeD, ixD, rsv]
        refine ⟨_, rfl, ?_⟩
        simp only [eqD, w_every_texts, w_every_lists, w_every_nested, w_every_not, w_every_or, w_every_and, w_every_less, w_every_every, w_every_nothing, w_never_texts, w_never_lists, w_never_nested, w_never_not, w_never_or, w_never_and, w_never_less, w_never_every, w_never_nothing, w_nothing_texts, w_nothing_lists, w_nothing_nested, w_nothing_not, w_nothing_or, w_nothing_and, w_nothing_less, w_nothing_every, w_nothing_nothing, w_texts_texts, w_texts_lists, w_texts_nested, w_texts_not, w_texts_or, w_texts_and, w_texts_less, w_texts_every, w_texts_nothing, w_lists_texts, w_lists_lists, w_lists_nested, w_lists_not, w_lists_or, w_lists_and, w_lists_less, w_lists_every, w_lists_nothing, w_nested_texts, w_nested_lists, w_nested_nested, w_nested_not, w_nested_or, w_nested_and, w_nested_less, w_nested_every, w_nested_nothing, w_not_texts, w_not_lists, w_not_nested, w_not_not, w_not_or, w_not_and, w_not_less, w_not_every, w_not_nothing, w_or_texts, w_or_lists, w_or_nested, w_or_not, w_or_or, w_or_and, w_or_less, w_or_every, w_or_nothing, w_and_texts, w_and_lists, w_and_nested, w_and_not, w_and_or, w_and_and, w_and_less, w_and_every, w_and_nothing, w_less_texts, w_less_lists, w_less_nested, w_less_not, w_less_or, w_less_and, w_less_less, w_less_every, w_less_nothing, decide_true, decide_false, Bool.false_eq_true, if_false, if_true]
        exact ⟨rfl, z⟩
      | texts lo hi =>
        simp only [nodeD, ixD, rsv]
        refine ⟨_, rfl, ?_⟩
        simp only [eqD, w_every_texts, w_every_lists, w_every_nested, w_every_not, w_every_or, w_every_and, w_every_less, w_every_every, w_every_nothing, w_never_texts, w_never_lists, w_never_nested, w_never_not, w_never_or, w_never_and, w_never_less, w_never_every, w_never_nothing, w_nothing_texts, w_nothing_lists, w_nothing_nested, w_nothing_not, w_nothing_or, w_nothing_and, w_nothing_less, w_nothing_every, w_nothing_nothing, w_texts_texts, w_texts_lists, w_texts_nested, w_texts_not, w_texts_or, w_texts_and, w_texts_less, w_texts_every, w_texts_nothing, w_lists_texts, w_lists_lists, w_lists_nested, w_lists_not, w_lists_or, w_lists_and, w_lists_less, w_lists_every, w_lists_nothing, w_nested_texts, w_nested_lists, w_nested_nested, w_nested_not, w_nested_or, w_nested_and, w_nested_less, w_nested_every, w_nested_nothing, w_not_texts, w_not_lists, w_not_nested, w_not_not, w_not_or, w_not_and, w_not_less, w_not_every, w_not_nothing, w_or_texts, w_or_lists, w_or_nested, w_or_not, w_or_or, w_or_and, w_or_less, w_or_every, w_or_nothing, w_and_texts, w_and_lists, w_and_nested, w_and_not, w_and_or, w_and_and, w_and_less, w_and_every, w_and_nothing, w_less_texts, w_less_lists, w_less_nested, w_less_not, w_less_or, w_less_and, w_less_less, w_less_every, w_less_nothing, decide_true, decide_false, Bool.false_eq_true, if_false, if_true]
        cases v with
        | none => exact ⟨trivial, z⟩
        | list xs => exact ⟨trivial, z⟩
        | str x =>
          simp only [szD] at sz
          refine ⟨trivial, ?_⟩
          refine Eq.mpr (if_pos rfl) ?_
          refine ⟨_, rfl, by omega, trivial, ?_⟩
          simp only [has] at z
          refine ite2 (fun e => ?_) (fun e => ?_)
          · rw [e, Bool.true_and] at z
            cases hi with
            | none =>
              refine ⟨_, rfl, trivial, ?_⟩
              have e2 : decide ((x.length : Int) ≤ 1000000000) = true := decide_eq_true (by omega)
              show q (.bool (decide ((x.length : Int) ≤ 1000000000))) ω
              rw [e2]
              exact z
            | some h => exact ⟨_, rfl, trivial, z⟩
          · rw [Bool.eq_false_iff.mpr e, Bool.false_and] at z
            exact z
        | _ => simp [isVal] at val
      | lists s =>
        simp only [nodeD, ixD, rsv]
        refine ⟨_, rfl, ?_⟩
        simp only [eqD, w_every_texts, w_every_lists, w_every_nested, w_every_not, w_every_or, w_every_and, w_every_less, w_every_every, w_every_nothing, w_never_texts, w_never_lists, w_never_nested, w_never_not, w_never_or, w_never_and, w_never_less, w_never_every, w_never_nothing, w_nothing_texts, w_nothing_lists, w_nothing_nested, w_nothing_not, w_nothing_or, w_nothing_and, w_nothing_less, w_nothing_every, w_nothing_nothing, w_texts_texts, w_texts_lists, w_texts_nested, w_texts_not, w_texts_or, w_texts_and, w_texts_less, w_texts_every, w_texts_nothing, w_lists_texts, w_lists_lists, w_lists_nested, w_lists_not, w_lists_or, w_lists_and, w_lists_less, w_lists_every, w_lists_nothing, w_nested_texts, w_nested_lists, w_nested_nested, w_nested_not, w_nested_or, w_nested_and, w_nested_less, w_nested_every, w_nested_nothing, w_not_texts, w_not_lists, w_not_nested, w_not_not, w_not_or, w_not_and, w_not_less, w_not_every, w_not_nothing, w_or_texts, w_or_lists, w_or_nested, w_or_not, w_or_or, w_or_and, w_or_less, w_or_every, w_or_nothing, w_and_texts, w_and_lists, w_and_nested, w_and_not, w_and_or, w_and_and, w_and_less, w_and_every, w_and_nothing, w_less_texts, w_less_lists, w_less_nested, w_less_not, w_less_or, w_less_and, w_less_less, w_less_every, w_less_nothing, decide_true, decide_false, Bool.false_eq_true, if_false, if_true]
        cases v with
        | none => exact ⟨trivial, z⟩
        | str x => exact ⟨trivial, z⟩
        | list xs =>
          simp only [szD] at sz
          simp only [isVal] at val
          simp only [PyData.depth] at dn
          have hl := len_le_szAll xs
          refine ⟨trivial, ?_⟩
          refine Eq.mpr (if_pos rfl) ?_
          refine ⟨_, rfl, by omega, fun i acc ω2 => acc = (xs.take i).map (fun x => PyData.bool (has (s) x)) ∧ ω2 = ω, ⟨rfl, rfl⟩, ?_, ?_⟩
          · rintro i y acc ω2 hy ⟨rfl, rfl⟩ _
            have hm := List.mem_of_getElem? hy
            have dm := depth_mem hm
            have sm := szD_mem hm
            simp only [dAnd, dAndV, dAsg, dC, dCB, dCall, dCallX, dChain, dCons, dDrop, dErr1, dIf, dIfS, dIsi, dLst, dNext, dNil, dNot, dNotV, dOp, dOr, dOrV, dPar, dRet, dRetN, dRetS, dSeq, dSet, dSl, dTest, dTup, dVar, dgCons, dgName, dgNil, dgTup, dNeg, endsD, xcOf, dFz, startD, wipeD, List.getElem?_cons_zero, List.getElem?_cons_succ, List.set_cons_zero, List.set_cons_succ, List.map_cons, List.map_nil, List.cons_append, List.nil_append, List.length_cons, List.length_nil, List.replicate]
            unfold dYes
            simp only [dAnd, dAndV, dAsg, dC, dCB, dCall, dCallX, dChain, dCons, dDrop, dErr1, dIf, dIfS, dIsi, dLst, dNext, dNil, dNot, dNotV, dOp, dOr, dOrV, dPar, dRet, dRetN, dRetS, dSeq, dSet, dSl, dTest, dTup, dVar, dgCons, dgName, dgNil, dgTup, dNeg, endsD, xcOf, dFz, startD, wipeD, List.getElem?_cons_zero, List.getElem?_cons_succ, List.set_cons_zero, List.set_cons_succ, List.map_cons, List.map_nil, List.cons_append, List.nil_append, List.length_cons, List.length_nil, List.replicate]
            simp only [if_true]
            refine ⟨_, rfl, s, y, _, rfl, .node s, isValAll_iff.mp val y hm, by omega, by simp only [Shp.dep] at dn ⊢; omega, ?_⟩
            rw [← tk_snoc hy, List.map_append]
            exact ⟨rfl, rfl⟩
          · rintro acc ω2 _ ⟨rfl, rfl⟩
            rw [List.take_length]
            refine ⟨_, xs.map (has (s)), rfl, by simp only [rsv, List.map_map]; rfl, ?_⟩
            rw [List.all_map]
            exact z
        | _ => simp [isVal] at val
      | nested s =>
        simp only [nodeD, ixD, rsv]
        refine ⟨_, rfl, ?_⟩
        simp only [eqD, w_every_texts, w_every_lists, w_every_nested, w_every_not, w_every_or, w_every_and, w_every_less, w_every_every, w_every_nothing, w_never_texts, w_never_lists, w_never_nested, w_never_not, w_never_or, w_never_and, w_never_less, w_never_every, w_never_nothing, w_nothing_texts, w_nothing_lists, w_nothing_nested, w_nothing_not, w_nothing_or, w_nothing_and, w_nothing_less, w_nothing_every, w_nothing_nothing, w_texts_texts, w_texts_lists, w_texts_nested, w_texts_not, w_texts_or, w_texts_and, w_texts_less, w_texts_every, w_texts_nothing, w_lists_texts, w_lists_lists, w_lists_nested, w_lists_not, w_lists_or, w_lists_and, w_lists_less, w_lists_every, w_lists_nothing, w_nested_texts, w_nested_lists, w_nested_nested, w_nested_not, w_nested_or, w_nested_and, w_nested_less, w_nested_every, w_nested_nothing, w_not_texts, w_not_lists, w_not_nested, w_not_not, w_not_or, w_not_and, w_not_less, w_not_every, w_not_nothing, w_or_texts, w_or_lists, w_or_nested, w_or_not, w_or_or, w_or_and, w_or_less, w_or_every, w_or_nothing, w_and_texts, w_and_lists, w_and_nested, w_and_not, w_and_or, w_and_and, w_and_less, w_and_every, w_and_nothing, w_less_texts, w_less_lists, w_less_nested, w_less_not, w_less_or, w_less_and, w_less_less, w_less_every, w_less_nothing, decide_true, decide_false, Bool.false_eq_true, if_false, if_true]
        refine ⟨_, rfl, s, v, _, rfl, .node s, val, sz, by simp only [Shp.dep] at dn; omega, ?_⟩
        refine ite2 (fun e => ?_) (fun e => ?_)
        · have : has (.nested s) v = true := by rw [has_nested, e, Bool.true_or]
          rw [this] at z
          exact z
        have hn : has (.nested s) v = liB (has (.nested s)) v := by rw [has_nested, Bool.eq_false_iff.mpr e, Bool.false_or]
        rw [hn] at z
        cases v with
        | none => exact ⟨trivial, z⟩
        | str x => exact ⟨trivial, z⟩
        | list xs =>
          simp only [szD] at sz
          simp only [isVal] at val
          simp only [PyData.depth] at dn
          simp only [liB] at z
          have hl := len_le_szAll xs
          refine ⟨trivial, ?_⟩
          refine Eq.mpr (if_pos rfl) ?_
          refine ⟨_, rfl, by omega, fun i acc ω2 => acc = (xs.take i).map (fun x => PyData.bool (has (.nested s) x)) ∧ ω2 = ω, ⟨rfl, rfl⟩, ?_, ?_⟩
          · rintro i y acc ω2 hy ⟨rfl, rfl⟩ _
            have hm := List.mem_of_getElem? hy
            have dm := depth_mem hm
            have sm := szD_mem hm
            simp only [dAnd, dAndV, dAsg, dC, dCB, dCall, dCallX, dChain, dCons, dDrop, dErr1, dIf, dIfS, dIsi, dLst, dNext, dNil, dNot, dNotV, dOp, dOr, dOrV, dPar, dRet, dRetN, dRetS, dSeq, dSet, dSl, dTest, dTup, dVar, dgCons, dgName, dgNil, dgTup, dNeg, endsD, xcOf, dFz, startD, wipeD, List.getElem?_cons_zero, List.getElem?_cons_succ, List.set_cons_zero, List.set_cons_succ, List.map_cons, List.map_nil, List.cons_append, List.nil_append, List.length_cons, List.length_nil, List.replicate]
            unfold dYes
            simp only [dAnd, dAndV, dAsg, dC, dCB, dCall, dCallX, dChain, dCons, dDrop, dErr1, dIf, dIfS, dIsi, dLst, dNext, dNil, dNot, dNotV, dOp, dOr, dOrV, dPar, dRet, dRetN, dRetS, dSeq, dSet, dSl, dTest, dTup, dVar, dgCons, dgName, dgNil, dgTup, dNeg, endsD, xcOf, dFz, startD, wipeD, List.getElem?_cons_zero, List.getElem?_cons_succ, List.set_cons_zero, List.set_cons_succ, List.map_cons, List.map_nil, List.cons_append, List.nil_append, List.length_cons, List.length_nil, List.replicate]
            simp only [if_true]
            refine ⟨.nested s, y, _, rfl, .node (.nested s), isValAll_iff.mp val y hm, by omega, by simp only [Shp.dep] at dn ⊢; omega, ?_⟩
            rw [← tk_snoc hy, List.map_append]
            exact ⟨rfl, rfl⟩
          · rintro acc ω2 _ ⟨rfl, rfl⟩
            rw [List.take_length]
            refine ⟨_, xs.map (has (.nested s)), rfl, by simp only [rsv, List.map_map]; rfl, ?_⟩
            rw [List.all_map]
            exact z
        | _ => simp [isVal] at val
      | not s =>
        simp only [nodeD, ixD, rsv]
        refine ⟨_, rfl, ?_⟩
        simp only [eqD, w_every_texts, w_every_lists, w_every_nested, w_every_not, w_every_or, w_every_and, w_every_less, w_every_every, w_every_nothing, w_never_texts, w_never_lists, w_never_nested, w_never_not, w_never_or, w_never_and, w_never_less, w_never_every, w_never_nothing, w_nothing_texts, w_nothing_lists, w_nothing_nested, w_nothing_not, w_nothing_or, w_nothing_and, w_nothing_less, w_nothing_every, w_nothing_nothing, w_texts_texts, w_texts_lists, w_texts_nested, w_texts_not, w_texts_or, w_texts_and, w_texts_less, w_texts_every, w_texts_nothing, w_lists_texts, w_lists_lists, w_lists_nested, w_lists_not, w_lists_or, w_lists_and, w_lists_less, w_lists_every, w_lists_nothing, w_nested_texts, w_nested_lists, w_nested_nested, w_nested_not, w_nested_or, w_nested_and, w_nested_less, w_nested_every, w_nested_nothing, w_not_texts, w_not_lists, w_not_nested, w_not_not, w_not_or, w_not_and, w_not_less, w_not_every, w_not_nothing, w_or_texts, w_or_lists, w_or_nested, w_or_not, w_or_or, w_or_and, w_or_less, w_or_every, w_or_nothing, w_and_texts, w_and_lists, w_and_nested, w_and_not, w_and_or, w_and_and, w_and_less, w_and_every, w_and_nothing, w_less_texts, w_less_lists, w_less_nested, w_less_not, w_less_or, w_less_and, w_less_less, w_less_every, w_less_nothing, decide_true, decide_false, Bool.false_eq_true, if_false, if_true]
        simp only [Shp.dep] at dn
        exact ⟨_, rfl, s, v, _, rfl, .node s, val, sz, by omega, z⟩
      | or a b =>
        simp only [nodeD, ixD, rsv]
        refine ⟨_, rfl, ?_⟩
        simp only [eqD, w_every_texts, w_every_lists, w_every_nested, w_every_not, w_every_or, w_every_and, w_every_less, w_every_every, w_every_nothing, w_never_texts, w_never_lists, w_never_nested, w_never_not, w_never_or, w_never_and, w_never_less, w_never_every, w_never_nothing, w_nothing_texts, w_nothing_lists, w_nothing_nested, w_nothing_not, w_nothing_or, w_nothing_and, w_nothing_less, w_nothing_every, w_nothing_nothing, w_texts_texts, w_texts_lists, w_texts_nested, w_texts_not, w_texts_or, w_texts_and, w_texts_less, w_texts_every, w_texts_nothing, w_lists_texts, w_lists_lists, w_lists_nested, w_lists_not, w_lists_or, w_lists_and, w_lists_less, w_lists_every, w_lists_nothing, w_nested_texts, w_nested_lists, w_nested_nested, w_nested_not, w_nested_or, w_nested_and, w_nested_less, w_nested_every, w_nested_nothing, w_not_texts, w_not_lists, w_not_nested, w_not_not, w_not_or, w_not_and, w_not_less, w_not_every, w_not_nothing, w_or_texts, w_or_lists, w_or_nested, w_or_not, w_or_or, w_or_and, w_or_less, w_or_every, w_or_nothing, w_and_texts, w_and_lists, w_and_nested, w_and_not, w_and_or, w_and_and, w_and_less, w_and_every, w_and_nothing, w_less_texts, w_less_lists, w_less_nested, w_less_not, w_less_or, w_less_and, w_less_less, w_less_every, w_less_nothing, decide_true, decide_false, Bool.false_eq_true, if_false, if_true]
        simp only [Shp.dep] at dn
        refine ⟨_, rfl, a, v, _, rfl, .node a, val, sz, by omega, ?_⟩
        simp only [has] at z
        refine ite2 (fun e => ?_) (fun e => ?_)
        · rw [e, Bool.true_or] at z
          exact z
        · rw [Bool.eq_false_iff.mpr e, Bool.false_or] at z
          exact ⟨_, rfl, b, v, _, rfl, .node b, val, sz, by omega, z⟩
      | and a b =>
        simp only [nodeD, ixD, rsv]
        refine ⟨_, rfl, ?_⟩
        simp only [eqD, w_every_texts, w_every_lists, w_every_nested, w_every_not, w_every_or, w_every_and, w_every_less, w_every_every, w_every_nothing, w_never_texts, w_never_lists, w_never_nested, w_never_not, w_never_or, w_never_and, w_never_less, w_never_every, w_never_nothing, w_nothing_texts, w_nothing_lists, w_nothing_nested, w_nothing_not, w_nothing_or, w_nothing_and, w_nothing_less, w_nothing_every, w_nothing_nothing, w_texts_texts, w_texts_lists, w_texts_nested, w_texts_not, w_texts_or, w_texts_and, w_texts_less, w_texts_every, w_texts_nothing, w_lists_texts, w_lists_lists, w_lists_nested, w_lists_not, w_lists_or, w_lists_and, w_lists_less, w_lists_every, w_lists_nothing, w_nested_texts, w_nested_lists, w_nested_nested, w_nested_not, w_nested_or, w_nested_and, w_nested_less, w_nested_every, w_nested_nothing, w_not_texts, w_not_lists, w_not_nested, w_not_not, w_not_or, w_not_and, w_not_less, w_not_every, w_not_nothing, w_or_texts, w_or_lists, w_or_nested, w_or_not, w_or_or, w_or_and, w_or_less, w_or_every, w_or_nothing, w_and_texts, w_and_lists, w_and_nested, w_and_not, w_and_or, w_and_and, w_and_less, w_and_every, w_and_nothing, w_less_texts, w_less_lists, w_less_nested, w_less_not, w_less_or, w_less_and, w_less_less, w_less_every, w_less_nothing, decide_true, decide_false, Bool.false_eq_true, if_false, if_true]
        simp only [Shp.dep] at dn
        refine ⟨_, rfl, a, v, _, rfl, .node a, val, sz, by omega, ?_⟩
        simp only [has] at z
        refine ite2 (fun e => ?_) (fun e => ?_)
        · rw [e, Bool.true_and] at z
          exact ⟨_, rfl, b, v, _, rfl, .node b, val, sz, by omega, z⟩
        · rw [Bool.eq_false_iff.mpr e, Bool.false_and] at z
          exact z
      | less a b =>
        simp only [nodeD, ixD, rsv]
        refine ⟨_, rfl, ?_⟩
        simp only [eqD, w_every_texts, w_every_lists, w_every_nested, w_every_not, w_every_or, w_every_and, w_every_less, w_every_every, w_every_nothing, w_never_texts, w_never_lists, w_never_nested, w_never_not, w_never_or, w_never_and, w_never_less, w_never_every, w_never_nothing, w_nothing_texts, w_nothing_lists, w_nothing_nested, w_nothing_not, w_nothing_or, w_nothing_and, w_nothing_less, w_nothing_every, w_nothing_nothing, w_texts_texts, w_texts_lists, w_texts_nested, w_texts_not, w_texts_or, w_texts_and, w_texts_less, w_texts_every, w_texts_nothing, w_lists_texts, w_lists_lists, w_lists_nested, w_lists_not, w_lists_or, w_lists_and, w_lists_less, w_lists_every, w_lists_nothing, w_nested_texts, w_nested_lists, w_nested_nested, w_nested_not, w_nested_or, w_nested_and, w_nested_less, w_nested_every, w_nested_nothing, w_not_texts, w_not_lists, w_not_nested, w_not_not, w_not_or, w_not_and, w_not_less, w_not_every, w_not_nothing, w_or_texts, w_or_lists, w_or_nested, w_or_not, w_or_or, w_or_and, w_or_less, w_or_every, w_or_nothing, w_and_texts, w_and_lists, w_and_nested, w_and_not, w_and_or, w_and_and, w_and_less, w_and_every, w_and_nothing, w_less_texts, w_less_lists, w_less_nested, w_less_not, w_less_or, w_less_and, w_less_less, w_less_every, w_less_nothing, decide_true, decide_false, Bool.false_eq_true, if_false, if_true]
        simp only [Shp.dep] at dn
        refine ⟨_, rfl, a, v, _, rfl, .node a, val, sz, by omega, ?_⟩
        simp only [has] at z
        refine ite2 (fun e => ?_) (fun e => ?_)
        · rw [e, Bool.true_and] at z
          exact ⟨_, rfl, b, v, _, rfl, .node b, val, sz, by omega, z⟩
        · rw [Bool.eq_false_iff.mpr e, Bool.false_and] at z
          exact z
end
theorem boolOk (b : Bool) : Ok (.bool b) := ⟨rfl, by simp [PyData.depth], by simp [wt]⟩
theorem code_lists (s : Shp) : codeAt 0 s ++ [.lists ((codeAt 0 s).length - 1)] = codeAt 0 (.lists s) := by simp only [codeAt, codeAt_len, Nat.zero_add]
theorem code_nested (s : Shp) : codeAt 0 s ++ [.lists ((codeAt 0 s).length + 1), .nested ((codeAt 0 s).length - 1)] = codeAt 0 (.nested s) := by simp only [codeAt, codeAt_len, Nat.zero_add]
theorem code_ne (s : Shp) : codeAt 0 s ≠ [] := fun e => by
  have h := codeAt_len s 0
  have := s.len_pos
  rw [e] at h
  simp at h
  omega
theorem bools_ok {s : Shp} {vals : List PyData} (hl : vals.length ≤ 100) : Ok (.list (vals.map fun v => PyData.bool (has s v))) := by
  refine ⟨?_, ?_, ?_⟩
  · simp only [fine]
    exact fineAll_iff.mpr fun d hd => by obtain ⟨v, _, rfl⟩ := List.mem_map.mp hd; rfl
  · have := depthAll_le (n := 0) (xs := vals.map fun v => PyData.bool (has s v)) fun d hd => by obtain ⟨v, _, rfl⟩ := List.mem_map.mp hd; simp [PyData.depth]
    simp only [PyData.depth]
    omega
  · have := wtAll_le (B := 5) (xs := vals.map fun v => PyData.bool (has s v)) fun d hd => by obtain ⟨v, _, rfl⟩ := List.mem_map.mp hd; simp [wt]
    rw [List.length_map] at this
    simp only [wt]
    omega
end Tx

namespace Tx
open PySem PySem.Spec PyProof.Rows L2
section
variable {K : PySem.W.Frag} {C p g T : Addr} {m qual : Str} {st : Stmt} {oc oc2 kV dc pm cd ct : Value} {od od2 an : Option Addr} {sl sl2 : Array (Option Value)} {rest : List Value} {t : Tok} {n : Nat}
theorem hasK_of0 (rd : PySem.W.readsIn K C (.type "type") = true)
    (a : PySem.W.findCls K (.ref C) (.type "type") m = some (.get (.builtin "classmethod.__get__") (.ref p) .none (.ref C))) (rc : PySem.W.recIn K p "classmethod" = some (.ref g :: rest)) (fi : PySem.W.fnIn K g = true)
    (l : K.lookup g = some ⟨oc, od, .func (PySem.W.fnOf m qual (defArgs st) (defBody st) (defScope st) .none kV dc pm an cd ct), sl⟩)
    (c : PySem.W.codeIn K cd qual = true) (k : PySem.W.keepIn K (.ref g) = true) : HasK K C m qual st [] :=
  ⟨_, p, g, _, cread rd, ⟨a, ⟨rest, rc⟩, fi⟩, ⟨⟨oc, od, _, kV, dc, pm, an, cd, ct, sl, rfl, l, c, .inl ⟨rfl, rfl⟩, .inl rfl⟩, k⟩⟩
theorem hasK_of2 (rd : PySem.W.readsIn K C (.type "type") = true)
    (a : PySem.W.findCls K (.ref C) (.type "type") m = some (.get (.builtin "classmethod.__get__") (.ref p) .none (.ref C))) (rc : PySem.W.recIn K p "classmethod" = some (.ref g :: rest)) (fi : PySem.W.fnIn K g = true)
    (l : K.lookup g = some ⟨oc, od, .func (PySem.W.fnOf m qual (defArgs st) (defBody st) (defScope st) (.ref T) kV dc pm an cd ct), sl⟩) (lt : K.lookup T = some ⟨oc2, od2, .seq #[.int 0 t, .none] n, sl2⟩)
    (c : PySem.W.codeIn K cd qual = true) (k : PySem.W.keepIn K (.ref g) = true) : HasK K C m qual st [V.int 0, V.non] :=
  ⟨_, p, g, _, cread rd, ⟨a, ⟨rest, rc⟩, fi⟩, ⟨⟨oc, od, _, kV, dc, pm, an, cd, ct, sl, rfl, l, c, .inr ⟨by simp, T, _, [.int 0 t, .none], n, rfl, lt, rfl, .cons ⟨t, rfl⟩ (.cons rfl .nil)⟩, .inl rfl⟩, k⟩⟩
end
end Tx

namespace Tx
open PySem PySem.Spec PyProof.Rows L2
/-! ## ~o by an own __invert__; codes put together; the operators of Shape -/
theorem inv_own {prog : Program} {w : World} {A : Around} {E : Value → Shared → Prop} {s : Shared} {K : PySem.W.Frag} {x C f : Addr} {ox : Obj} {od : Option Obj} {Q : Value → Shared → Prop} (X : K.In s.heap) (I : PySem.W.InstAt s.heap x ox C od)
    (at_ : PySem.W.findIn K (.ref C) "__invert__" = some (some (.ref f))) (fn : PySem.W.isFn K (.ref f) = true) (h : wpAny (model prog w) A (call (.ref f) [.ref x]) Q E s) : wpAny (model prog w) A (unaryOp .Invert (.ref x)) Q E s := by
  unfold unaryOp
  refine wpAny_holding ?_
  refine PySem.W.KFB.if_not rfl ?_
  refine wpAny_bind (m := callSpecial? (.ref x) (Str.ofString "__invert__")) (PySem.W.special_fn X I at_ (beq_iff_eq.mp fn) (wpAny_mono h (fun v s1 q => ?_) fun _ _ z => z))
  exact wpAny_pure q
def rm1 (C : Addr) (m : Str) (sp : DSp) : PyData → Wd → DQ → Prop := fun d ω q => InsD C m ω d ∧ sp [d] ω q X0
def lift1M (K : PySem.W.Frag) (rd : PyData → Wd → DQ → Prop) : V → Hp → VK → Prop := fun x H Q => ∃ J ω dx q, Rw K J H ω ∧ Rp K J x dx ∧ CovQ K J H ω q Q ∧ rd dx ω q
theorem un_own {X : Cx} {K : PySem.W.Frag} {C : Addr} {j k : Nat} {ps : List Str} {sp : DSp} (hK : X.K = K) (M : Mfn X.prog X.w X.K X.mg X.base CX0 j C "__invert__" ps (spD K sp)) (c : Ct X.mg X.A k) (h : j ≤ k) : UnR X (unaryOp .Invert) (lift1M K (rm1 C "__invert__" sp)) := by
  subst hK
  obtain ⟨f, fd, F, hm, hb⟩ := M
  intro pins s σ H x v Q I rx ⟨J, ω, dx, q, w, r1, cq, i1, z⟩
  obtain ⟨a, d2, od2, rfl, rfl, J2⟩ := insD_at w I r1 rx i1
  have run := own_run F hb (c.r.mono h) c.g I.env0 I (.cons rx .nil) w (.cons r1 .nil) cq z
  exact inv_own I.kIn J2 hm.at_ hm.fn run
def dUnM (rd : PyData → Wd → DQ → Prop) (te : DTE) (ρ : DS) (ω : Wd) (q : DQ) (x : DXK) : Prop := te ρ ω (fun a ω1 => rd a ω1 q) x
theorem de_unM {W : WX} {X : Cx} {K : PySem.W.Frag} {op : UnaryOp} {rd : PyData → Wd → DQ → Prop} {a : Expr} {ta : DTE} {pos : Pos} (ho : UnR X (unaryOp op) (lift1M K rd)) (ha : DE W X K a ta) : DE W X K (.UnaryOp op a pos) (dUnM rd ta) := by
  obtain ⟨t, pp, k⟩ := ha
  exact ⟨_, pe_un ho pp, fun σ H J ω ρ q x Q w s cq cx z => k σ H J ω ρ _ x _ w s (fun r ω1 v J1 H1 z1 g1 w1 rp => ⟨J1, ω1, r, q, w1, rp, cq.step g1, z1⟩) cx z⟩
structure OSB (K : PySem.W.Frag) (C : Addr) : Prop where
  bor : OwnBin K C "or"
  band : OwnBin K C "and"
  bsub : OwnBin K C "sub"
theorem osb_of {K : PySem.W.Frag} {C : Addr} {o1 o2 o3 : Option Value} (sf : PySem.W.selfFirst K C = true) (r1 : PySem.W.findIn K (.ref C) (dunderR "or") = some o1) (q1 : o1 = none ∨ ∃ g : Addr, o1 = some (.ref g)) (r2 : PySem.W.findIn K (.ref C) (dunderR "and") = some o2) (q2 : o2 = none ∨ ∃ g : Addr, o2 = some (.ref g))
    (r3 : PySem.W.findIn K (.ref C) (dunderR "sub") = some o3) (q3 : o3 = none ∨ ∃ g : Addr, o3 = some (.ref g)) : OSB K C := ⟨⟨sf, _, r1, q1⟩, ⟨sf, _, r2, q2⟩, ⟨sf, _, r3, q3⟩⟩
def shift (b : Nat) : Nd → Nd
  | .lists k => .lists (k + b)
  | .nested k => .nested (k + b)
  | .not k => .not (k + b)
  | .or i j => .or (i + b) (j + b)
  | .and i j => .and (i + b) (j + b)
  | .less i j => .less (i + b) (j + b)
  | nd => nd
theorem shift_code : ∀ (s : Shp) (o b : Nat), (codeAt o s).map (shift b) = codeAt (o + b) s := by
  intro s
  induction s with
  | every => exact fun o b => rfl
  | never => exact fun o b => rfl
  | nothing => exact fun o b => rfl
  | texts lo hi => exact fun o b => rfl
  | lists s ih =>
    intro o b
    have := s.len_pos
    simp only [codeAt, List.map_append, ih, List.map_cons, List.map_nil, shift]
    rw [show o + s.len - 1 + b = o + b + s.len - 1 by omega]
  | nested s ih =>
    intro o b
    have := s.len_pos
    simp only [codeAt, List.map_append, ih, List.map_cons, List.map_nil, shift]
    rw [show o + s.len - 1 + b = o + b + s.len - 1 by omega, show o + s.len + 1 + b = o + b + s.len + 1 by omega]
  | not s ih =>
    intro o b
    have := s.len_pos
    simp only [codeAt, List.map_append, ih, List.map_cons, List.map_nil, shift]
    rw [show o + s.len - 1 + b = o + b + s.len - 1 by omega]
  | or a c ia ic =>
    intro o b
    have := a.len_pos
    have := c.len_pos
    simp only [codeAt, List.map_append, ia, ic, List.map_cons, List.map_nil, shift]
    rw [show o + a.len + b = o + b + a.len by omega, show o + a.len - 1 + b = o + b + a.len - 1 by omega, show o + a.len + c.len - 1 + b = o + b + a.len + c.len - 1 by omega]
  | and a c ia ic =>
    intro o b
    have := a.len_pos
    have := c.len_pos
    simp only [codeAt, List.map_append, ia, ic, List.map_cons, List.map_nil, shift]
    rw [show o + a.len + b = o + b + a.len by omega, show o + a.len - 1 + b = o + b + a.len - 1 by omega, show o + a.len + c.len - 1 + b = o + b + a.len + c.len - 1 by omega]
  | less a c ia ic =>
    intro o b
    have := a.len_pos
    have := c.len_pos
    simp only [codeAt, List.map_append, ia, ic, List.map_cons, List.map_nil, shift]
    rw [show o + a.len + b = o + b + a.len by omega, show o + a.len - 1 + b = o + b + a.len - 1 by omega, show o + a.len + c.len - 1 + b = o + b + a.len + c.len - 1 by omega]
/-- 0 code, 1 by, 2 node, 3 at -/
abbrev sMoved : Stmt := top 7
theorem scMoved : FnScope ["code", "by", "node", "at"] ["code", "by"] (defScope sMoved) := ⟨rfl, rfl, rfl, by decide +kernel, rfl, by decide +kernel, by decide +kernel⟩
/-- 0 word, 1 one, 2 other, 3 first -/
abbrev sJoint : Stmt := top 8
theorem scJoint : FnScope ["word", "one", "other", "first"] ["word", "one", "other"] (defScope sJoint) := ⟨rfl, rfl, rfl, by decide +kernel, rfl, by decide +kernel, by decide +kernel⟩
def dsMoved : DSp := fun ts ω q _ => ∃ c b, ts = [codeD c, .int ((b : Nat) : Int)] ∧ c.length ≤ 100000 ∧ q (.list ((c.map (shift b)).map ndD)) ω
inductive Wo where
  | or | and | less
def Wo.str : Wo → Str
  | .or => "or"
  | .and => "and"
  | .less => "less"
def Wo.nd (i j : Nat) : Wo → Nd
  | .or => .or i j
  | .and => .and i j
  | .less => .less i j
def Wo.shp (a b : Shp) : Wo → Shp
  | .or => .or a b
  | .and => .and a b
  | .less => .less a b
theorem Wo.ndD (w : Wo) (i j : Nat) : Tx.ndD (w.nd i j) = .tuple [.str w.str, .int (i : Int), .int (j : Int)] := by cases w <;> rfl
theorem Wo.code (w : Wo) (a b : Shp) : codeAt 0 a ++ codeAt a.len b ++ [w.nd (a.len - 1) (a.len + b.len - 1)] = codeAt 0 (w.shp a b) := by cases w <;> simp only [Wo.nd, Wo.shp, codeAt, Nat.zero_add]
def dsJoint : DSp := fun ts ω q _ => ∃ (w : Wo) (a b : Shp), ts = [.str w.str, codeD (codeAt 0 a), codeD (codeAt 0 b)] ∧ a.len ≤ 10000 ∧ b.len ≤ 10000 ∧ q (codeD (codeAt 0 (w.shp a b))) ω
theorem cutD_from1 {α : Type} (xs : List α) : cutD xs (some 1) none = xs.drop 1 := by
  unfold cutD
  have e : HT.sIx xs.length 0 (some 1) = min 1 xs.length := HT.sIx_nat xs.length 0 1
  rw [HT.sIx_none, e]
  cases xs with
  | nil => rfl
  | cons x xs =>
    have : min 1 (x :: xs).length = 1 := by simp
    rw [this, List.drop_one, List.tail_cons]
    exact List.take_of_length_le (by simp)
def inD' (ks : List Nat) : List PyData := ks.map fun (n : Nat) => PyData.int (n : Int)
theorem nd_form (b : Nat) (nd : Nd) : (∃ lo hi, nd = .text lo hi) ∨ ∃ (wd : Str) (ks : List Nat), decide (wd = "text") = false ∧ ndD nd = .tuple (.str wd :: inD' ks) ∧ ndD (shift b nd) = .tuple (.str wd :: inD' (ks.map (· + b))) ∧ ks.length ≤ 2 := by
  cases nd with
  | text lo hi => exact .inl ⟨lo, hi, rfl⟩
  | any => exact .inr ⟨"any", [], w_any_text, rfl, rfl, by decide⟩
  | never => exact .inr ⟨"never", [], w_never_text, rfl, rfl, by decide⟩
  | nothing => exact .inr ⟨"nothing", [], w_nothing_text, rfl, rfl, by decide⟩
  | lists k => exact .inr ⟨"lists", [k], w_lists_text, rfl, rfl, by simp⟩
  | nested k => exact .inr ⟨"nested", [k], w_nested_text, rfl, rfl, by simp⟩
  | not k => exact .inr ⟨"not", [k], w_not_text, rfl, rfl, by simp⟩
  | or i j => exact .inr ⟨"or", [i, j], w_or_text, rfl, rfl, by simp⟩
  | and i j => exact .inr ⟨"and", [i, j], w_and_text, rfl, rfl, by simp⟩
  | less i j => exact .inr ⟨"less", [i, j], w_less_text, rfl, rfl, by simp⟩
def movT : DTE := dIf (dTest (dOp eqD (dOp ixD (dVar 2) (dC (.int 0))) (dC (.str "text")))) (dVar 2) (dTup (dCons (dOp ixD (dVar 2) (dC (.int 0))) (dStar (dLc (diData (dSl (dVar 2) (some (dC (.int 1))) none)) (dgName 3) dYes (dOp addD (dVar 3) (dVar 1)) [3]) dNil)))
theorem movT_ok {ω : Wd} {b : Nat} {nd : Nd} {s0 : Option PyData} {q : DQ} {x : DXK} (z : q (ndD (shift b nd)) ω) : movT [s0, some (.int (b : Int)), some (ndD nd), none] ω q x := by
  have sl : 100 ≤ sizeLine := by decide
  rcases nd_form b nd with ⟨lo, hi, rfl⟩ | ⟨wd, ks, hw, e1, e2, kl⟩
  · unfold movT
    simp only [dAnd, dAndV, dAsg, dC, dCB, dCall, dCallX, dChain, dCons, dDrop, dErr1, dIf, dIfS, dIsi, dLst, dNext, dNil, dNot, dNotV, dOp, dOr, dOrV, dPar, dRet, dRetN, dRetS, dSeq, dSet, dSl, dTest, dTup, dVar, dgCons, dgName, dgNil, dgTup, dNeg, endsD, xcOf, dFz, startD, wipeD, List.getElem?_cons_zero, List.getElem?_cons_succ, List.set_cons_zero, List.set_cons_succ, List.map_cons, List.map_nil, List.cons_append, List.nil_append, List.length_cons, List.length_nil, List.replicate]
    simp only [ndD, ixD, rsv]
    refine ⟨_, rfl, ?_⟩
    simp only [eqD, w_text_text, if_true]
    exact z
  · rw [e2] at z
    rw [e1]
    unfold movT
    have at0 : atI (PyData.str wd :: inD' ks) 0 = some (.str wd) := by simp [atI, ixN]
    refine ⟨_, at0, ?_⟩
    refine ite2 (fun t => by rw [hw] at t; cases t) (fun _ => ?_)
    refine ⟨_, at0, ?_⟩
    refine ⟨_, rfl, ?_⟩
    rw [cutD_from1, List.drop_one, List.tail_cons]
    refine ⟨by unfold inD'; rw [List.length_map]; omega, fun i acc ω2 => acc = inD' ((ks.take i).map (· + b)) ∧ ω2 = ω, ⟨rfl, rfl⟩, ?_, ?_⟩
    · rintro i y acc ω2 hy ⟨rfl, rfl⟩ _
      unfold inD' at hy
      rw [List.getElem?_map] at hy
      obtain ⟨k, h2, rfl⟩ := Option.map_eq_some_iff.mp hy
      refine ⟨?_, rfl⟩
      rw [← tk_snoc h2]
      unfold inD'
      simp only [List.map_append, List.map_cons, List.map_nil]
      rw [show ((k + b : Nat) : Int) = (k : Int) + (b : Int) by omega]
    · rintro acc ω2 _ ⟨rfl, rfl⟩
      have hl : (inD' ks).length = ks.length := by unfold inD'; rw [List.length_map]
      rw [hl, List.take_length]
      refine ⟨_, .inr rfl, ?_, ?_⟩
      · show (inD' (ks.map (· + b)) ++ []).length + 1 ≤ sizeLine
        unfold inD'
        rw [List.append_nil, List.length_map, List.length_map]
        omega
      · rw [List.append_nil]
        exact z
section
variable {P : Program} {w : World} {K : PySem.W.Frag} {mg : Str → Option Value} {base : Heap} {C : Addr}
theorem dd_moved (h : Has K mg "moved" sMoved) (B : Bi mg) : Dfn P w K mg base CX0 1 "moved" ["code", "by"] (spD K dsMoved) := by
  refine dfnD (k := 0) h B scMoved (fun _ _ _ _ _ _ us hl => match us, hl with | [_, _], _ => rfl) (fun ts ω q xx h => ?_) (fun f cv A out s H E c => ⟨_, (dss_one (ds_ret (de_lc (own := [("node", 2)]) (gd := (dgName 2)) (is := [2]) (tt := dYes) rfl scMoved.nd (di_data rfl (de_var (pv 0))) (blkOk_by (own := [("node", 2)]) (N := ["code", "by", "node", "at"]) (sc := defScope sMoved) (by decide +kernel)) (fun _ _ _ _ _ => (dg_name (pg_name (i := 2) scMoved.nd rfl (Or.inl rfl)))) (fun _ _ _ _ _ => dts_nil) (fun _ _ _ _ _ => (de_if (dt_cmp (do_eq rfl c.r.units) (de_ix rfl (de_var (pv 2)) de_int (fun _ _ => rfl)) de_str (nomark _)) (de_var (pv 2)) (de_tup (da_cons (de_ix rfl (de_var (pv 2)) de_int (fun _ _ => rfl)) (da_star rfl (de_lc (own := [("at", 3)]) (gd := (dgName 3)) (is := [3]) (tt := dYes) rfl scMoved.nd (di_data rfl (de_sl rfl (de_var (pv 2)) (do_some de_int) do_none)) (blkOk_by (own := [("at", 3)]) (N := ["code", "by", "node", "at"]) (by kernel_rfl)) (fun _ _ _ _ _ => (dg_name (pg_name (i := 3) scMoved.nd rfl (Or.inl rfl)))) (fun _ _ _ _ _ => dts_nil) (fun _ _ _ _ _ => (de_op (do_add rfl) (de_var (pv 3)) (de_var (pv 1))))) da_nil)))))))), fun ts ω q xx z => ?_⟩)
  · obtain ⟨c, b, rfl, _⟩ := h
    rfl
  obtain ⟨c, b, rfl, cl, z⟩ := z
  have sl : 100000 ≤ sizeLine := by decide
  refine ⟨_, rfl, by rw [List.length_map]; omega, fun i acc ω2 => acc = ((c.take i).map (shift b)).map ndD ∧ ω2 = ω, ⟨rfl, rfl⟩, ?_, ?_⟩
  · rintro i y acc ω2 hy ⟨rfl, rfl⟩ _
    rw [List.getElem?_map] at hy
    obtain ⟨nd, h1, rfl⟩ := Option.map_eq_some_iff.mp hy
    have go : movT [some (codeD c), some (.int (b : Int)), some (ndD nd), none] ω2 (fun r ω4 => ((c.take i).map (shift b)).map ndD ++ [r] = ((c.take (i + 1)).map (shift b)).map ndD ∧ ω4 = ω2) X0 := movT_ok (by
      rw [← tk_snoc h1]
      simp only [List.map_append, List.map_cons, List.map_nil]
      exact ⟨by trivial, by trivial⟩)
    exact go
  · rintro acc ω2 _ ⟨rfl, rfl⟩
    rw [List.length_map, List.take_length]
    exact z
theorem dd_joint (h : Has K mg "joint" sJoint) (B : Bi mg) (D_moved : Dfn P w K mg base CX0 1 "moved" ["code", "by"] (spD K dsMoved)) : Dfn P w K mg base CX0 2 "joint" ["word", "one", "other"] (spD K dsJoint) := by
  refine dfnD (k := 1) h B scJoint (fun _ _ _ _ _ _ us hl => match us, hl with | [_, _, _], _ => rfl) (fun ts ω q xx h => ?_) (fun f cv A out s H E c => ⟨_, (dss_cons (ds_set (i := 3) scJoint.nd rfl (Or.inl rfl) (de_op (do_sub rfl) (de_callB (dc_len rfl) (by rfl) c.b.len (by decide +kernel) (da_cons (de_var (pv 1)) da_nil)) de_int))
    (dss_one (ds_ret (de_tup (da_star rfl (de_var (pv 1)) (da_star rfl (de_d D_moved c (by omega) (by rfl) (da_cons (de_var (pv 2)) (da_cons (de_callB (dc_len rfl) (by rfl) c.b.len (by decide +kernel) (da_cons (de_var (pv 1)) da_nil)) da_nil))) (da_cons (de_tup (da_cons (de_var (pv 0)) (da_cons (de_var (pv 3)) (da_cons (de_op (do_add rfl) (de_var (pv 3)) (de_callB (dc_len rfl) (by rfl) c.b.len (by decide +kernel) (da_cons (de_var (pv 2)) da_nil))) da_nil)))) da_nil))))))), fun ts ω q xx z => ?_⟩)
  · obtain ⟨w, a, b, rfl, _⟩ := h
    rfl
  obtain ⟨w, a, b, rfl, al, bl, z⟩ := z
  have sl : 100000 ≤ sizeLine := by decide
  have pa := a.len_pos
  have pb := b.len_pos
  have la := codeAt_len a 0
  have lb := codeAt_len b 0
  refine ⟨trivial, (codeAt 0 a).map ndD, .inl rfl, codeAt 0 b, (codeAt 0 a).length, ?_, by omega, ?_⟩
  · rw [List.length_map]
  refine ⟨_, .inr rfl, by show 3 ≤ sizeLine; omega, ?_, ?_⟩
  · simp only [List.length_append, List.length_map, la, lb, List.length_cons, List.length_nil]
    omega
  · have e : PyData.tuple ((codeAt 0 a).map ndD ++ (((codeAt 0 b).map (shift (codeAt 0 a).length)).map ndD ++ [.tuple [.str w.str, .int ((((codeAt 0 a).map ndD).length : Int) - 1), .int ((((codeAt 0 a).map ndD).length : Int) - 1 + (((codeAt 0 b).map ndD).length : Int))]])) = codeD (codeAt 0 (w.shp a b)) := by
      rw [← w.code, la, shift_code, Nat.zero_add]
      unfold codeD
      simp only [List.map_append, List.map_cons, List.map_nil, Wo.ndD, List.length_map, la, lb, List.append_assoc]
      rw [show ((a.len : Int) - 1) = ((a.len - 1 : Nat) : Int) by omega, show (((a.len - 1 : Nat) : Int) + (b.len : Int)) = ((a.len + b.len - 1 : Nat) : Int) by omega]
    exact e ▸ z
end
end Tx

namespace Tx
open PySem PySem.Spec PyProof.Rows L2
/-! ## how many calls, how many lists and nested (plain) -/
def Shp.kids : Shp → List Shp
  | .lists s => [s]
  | .nested s => [s]
  | .not s => [s]
  | .or a b => [a, b]
  | .and a b => [a, b]
  | .less a b => [a, b]
  | _ => []
def Shp.many : Shp → Nat
  | .lists s => s.many + 1
  | .nested s => s.many + 1
  | .not s => s.many + 1
  | .or a b => a.many + b.many + 1
  | .and a b => a.many + b.many + 1
  | .less a b => a.many + b.many + 1
  | _ => 1
def Shp.nests : Shp → Nat
  | .lists s => s.nests + 1
  | .nested s => s.nests + 1
  | .not s => s.nests
  | .or a b => a.nests + b.nests
  | .and a b => a.nests + b.nests
  | .less a b => a.nests + b.nests
  | _ => 0
theorem many_len : ∀ s : Shp, s.many ≤ s.len
  | .every => by simp [Shp.len, Shp.many]
  | .never => by simp [Shp.len, Shp.many]
  | .nothing => by simp [Shp.len, Shp.many]
  | .texts _ _ => by simp [Shp.len, Shp.many]
  | .lists s => by have := many_len s; simp only [Shp.len, Shp.many]; omega
  | .nested s => by have := many_len s; simp only [Shp.len, Shp.many]; omega
  | .not s => by have := many_len s; simp only [Shp.len, Shp.many]; omega
  | .or a b => by have := many_len a; have := many_len b; simp only [Shp.len, Shp.many]; omega
  | .and a b => by have := many_len a; have := many_len b; simp only [Shp.len, Shp.many]; omega
  | .less a b => by have := many_len a; have := many_len b; simp only [Shp.len, Shp.many]; omega
theorem nests_len : ∀ s : Shp, s.nests < s.len
  | .every => by simp [Shp.len, Shp.nests]
  | .never => by simp [Shp.len, Shp.nests]
  | .nothing => by simp [Shp.len, Shp.nests]
  | .texts _ _ => by simp [Shp.len, Shp.nests]
  | .lists s => by have := nests_len s; simp only [Shp.len, Shp.nests]; omega
  | .nested s => by have := nests_len s; simp only [Shp.len, Shp.nests]; omega
  | .not s => by have := nests_len s; simp only [Shp.len, Shp.nests]; omega
  | .or a b => by have := nests_len a; have := nests_len b; simp only [Shp.len, Shp.nests]; omega
  | .and a b => by have := nests_len a; have := nests_len b; simp only [Shp.len, Shp.nests]; omega
  | .less a b => by have := nests_len a; have := nests_len b; simp only [Shp.len, Shp.nests]; omega
end Tx

namespace Tx
open PySem PySem.Spec PyProof.Rows L2
/-! ## the operators of Shape; the law's shapes by operators -/
/-- 0 self, 1 other -/
abbrev sSOr : Stmt := inClass (top 19) 8
theorem scSOr : FnScope ["self", "other"] ["self", "other"] (defScope sSOr) := ⟨rfl, rfl, rfl, by decide +kernel, rfl, by decide +kernel, by decide +kernel⟩
/-- 0 self, 1 other -/
abbrev sSAnd : Stmt := inClass (top 19) 9
theorem scSAnd : FnScope ["self", "other"] ["self", "other"] (defScope sSAnd) := ⟨rfl, rfl, rfl, by decide +kernel, rfl, by decide +kernel, by decide +kernel⟩
/-- 0 self, 1 other -/
abbrev sSSub : Stmt := inClass (top 19) 10
theorem scSSub : FnScope ["self", "other"] ["self", "other"] (defScope sSSub) := ⟨rfl, rfl, rfl, by decide +kernel, rfl, by decide +kernel, by decide +kernel⟩
/-- 0 self -/
abbrev sSInv : Stmt := inClass (top 19) 11
theorem scSInv : FnScope ["self"] ["self"] (defScope sSInv) := ⟨rfl, rfl, rfl, by decide +kernel, rfl, by decide +kernel, by decide +kernel⟩
/-- 0 _law_bag_here, 1 _law_deep, 2 _law_left, 3 _law_pick, 4 _law_one, 5 _law_node, 6 _law_two, 7 _law_beside -/
abbrev sLShape : Stmt := top 27
theorem scLShape : FnScope ["_law_bag_here", "_law_deep", "_law_left", "_law_pick", "_law_one", "_law_node", "_law_two", "_law_beside"] ["_law_bag_here", "_law_deep", "_law_left"] (defScope sLShape) := ⟨rfl, rfl, rfl, by decide +kernel, rfl, by decide +kernel, by decide +kernel⟩
def dsBinS (w : Wo) (C : Addr) : DSp := fun ts ω q _ => ∃ a b dx dy s t, ts = [refD a, refD b] ∧ ω a = some (shpM C dx (codeAt 0 s)) ∧ ω b = some (shpM C dy (codeAt 0 t)) ∧ s.len ≤ 10000 ∧ t.len ≤ 10000 ∧ ∀ m dz, ω m = none → q (refD m) (updW ω m (shpM C dz (codeAt 0 (w.shp s t))))
def dsInvS (C : Addr) : DSp := fun ts ω q _ => ∃ a dx s, ts = [refD a] ∧ ω a = some (shpM C dx (codeAt 0 s)) ∧ s.len ≤ 10000 ∧ ∀ m dz, ω m = none → q (refD m) (updW ω m (shpM C dz (codeAt 0 (.not s))))
section
variable {P : Program} {w : World} {K : PySem.W.Frag} {mg : Str → Option Value} {base : Heap} {C : Addr}
theorem m_or (xc : OS K mg C) (h : HasM K C "__or__" "Shape.__or__" sSOr) (B : Bi mg) (D_joint : Dfn P w K mg base CX0 2 "joint" ["word", "one", "other"] (spD K dsJoint)) (M_init : Mfn P w K mg base CX0 1 C "__init__" ["self", "code"] (spD K (dsSInit C))) : Mfn P w K mg base CX0 3 C "__or__" ["self", "other"] (spD K (dsBinS .or C)) := by
  refine mfnD (k := 2) h B scSOr (fun _ _ _ _ _ _ us hl => match us, hl with | [_, _], _ => rfl) (fun ts ω q xx h => ?_) (fun f cv A out s H E c => ⟨_, (dss_one (ds_ret (de_make rfl xc.cd M_init c (by omega) (by rfl) px0 (da_cons (de_d D_joint c (by omega) (by rfl) (da_cons de_str (da_cons (de_fld rfl (de_var (pv 0))) (da_cons (de_fld rfl (de_var (pv 1))) da_nil)))) da_nil)))), fun ts ω q xx z => ?_⟩)
  · obtain ⟨a, b, dx, dy, s, t, rfl, _⟩ := h
    rfl
  obtain ⟨a, b, dx, dy, s, t, rfl, ea, eb, sl, tl, z⟩ := z
  refine ⟨a, C, dx, _, _, rfl, ea, xc.cd.cl, xc.na, rfl, b, C, dy, _, _, rfl, eb, xc.cd.cl, xc.na, rfl, .or, s, t, rfl, sl, tl, fun m dz hm => ⟨m, dz, _, rfl, updW_same, rfl, ?_⟩⟩
  rw [updW_updW]
  exact z m dz hm
theorem m_and (xc : OS K mg C) (h : HasM K C "__and__" "Shape.__and__" sSAnd) (B : Bi mg) (D_joint : Dfn P w K mg base CX0 2 "joint" ["word", "one", "other"] (spD K dsJoint)) (M_init : Mfn P w K mg base CX0 1 C "__init__" ["self", "code"] (spD K (dsSInit C))) : Mfn P w K mg base CX0 3 C "__and__" ["self", "other"] (spD K (dsBinS .and C)) := by
  refine mfnD (k := 2) h B scSAnd (fun _ _ _ _ _ _ us hl => match us, hl with | [_, _], _ => rfl) (fun ts ω q xx h => ?_) (fun f cv A out s H E c => ⟨_, (dss_one (ds_ret (de_make rfl xc.cd M_init c (by omega) (by rfl) px0 (da_cons (de_d D_joint c (by omega) (by rfl) (da_cons de_str (da_cons (de_fld rfl (de_var (pv 0))) (da_cons (de_fld rfl (de_var (pv 1))) da_nil)))) da_nil)))), fun ts ω q xx z => ?_⟩)
  · obtain ⟨a, b, dx, dy, s, t, rfl, _⟩ := h
    rfl
  obtain ⟨a, b, dx, dy, s, t, rfl, ea, eb, sl, tl, z⟩ := z
  refine ⟨a, C, dx, _, _, rfl, ea, xc.cd.cl, xc.na, rfl, b, C, dy, _, _, rfl, eb, xc.cd.cl, xc.na, rfl, .and, s, t, rfl, sl, tl, fun m dz hm => ⟨m, dz, _, rfl, updW_same, rfl, ?_⟩⟩
  rw [updW_updW]
  exact z m dz hm
theorem m_sub (xc : OS K mg C) (h : HasM K C "__sub__" "Shape.__sub__" sSSub) (B : Bi mg) (D_joint : Dfn P w K mg base CX0 2 "joint" ["word", "one", "other"] (spD K dsJoint)) (M_init : Mfn P w K mg base CX0 1 C "__init__" ["self", "code"] (spD K (dsSInit C))) : Mfn P w K mg base CX0 3 C "__sub__" ["self", "other"] (spD K (dsBinS .less C)) := by
  refine mfnD (k := 2) h B scSSub (fun _ _ _ _ _ _ us hl => match us, hl with | [_, _], _ => rfl) (fun ts ω q xx h => ?_) (fun f cv A out s H E c => ⟨_, (dss_one (ds_ret (de_make rfl xc.cd M_init c (by omega) (by rfl) px0 (da_cons (de_d D_joint c (by omega) (by rfl) (da_cons de_str (da_cons (de_fld rfl (de_var (pv 0))) (da_cons (de_fld rfl (de_var (pv 1))) da_nil)))) da_nil)))), fun ts ω q xx z => ?_⟩)
  · obtain ⟨a, b, dx, dy, s, t, rfl, _⟩ := h
    rfl
  obtain ⟨a, b, dx, dy, s, t, rfl, ea, eb, sl, tl, z⟩ := z
  refine ⟨a, C, dx, _, _, rfl, ea, xc.cd.cl, xc.na, rfl, b, C, dy, _, _, rfl, eb, xc.cd.cl, xc.na, rfl, .less, s, t, rfl, sl, tl, fun m dz hm => ⟨m, dz, _, rfl, updW_same, rfl, ?_⟩⟩
  rw [updW_updW]
  exact z m dz hm
theorem m_inv (xc : OS K mg C) (h : HasM K C "__invert__" "Shape.__invert__" sSInv) (B : Bi mg) (M_init : Mfn P w K mg base CX0 1 C "__init__" ["self", "code"] (spD K (dsSInit C))) : Mfn P w K mg base CX0 3 C "__invert__" ["self"] (spD K (dsInvS C)) := by
  refine mfnD (k := 2) h B scSInv (fun _ _ _ _ _ _ us hl => match us, hl with | [_], _ => rfl) (fun ts ω q xx h => ?_) (fun f cv A out s H E c => ⟨_, (dss_one (ds_ret (de_make rfl xc.cd M_init c (by omega) (by rfl) px0 (da_cons (de_tup (da_star rfl (de_fld rfl (de_var (pv 0))) (da_cons (de_tup (da_cons de_str (da_cons (de_op (do_sub rfl) (de_callB (dc_len rfl) (by rfl) c.b.len (by decide +kernel) (da_cons (de_fld rfl (de_var (pv 0))) da_nil)) de_int) da_nil))) da_nil))) da_nil)))), fun ts ω q xx z => ?_⟩)
  · obtain ⟨a, dx, s, rfl, _⟩ := h
    rfl
  obtain ⟨a, dx, s, rfl, ea, sl, z⟩ := z
  have sz : 200000 ≤ sizeLine := by decide
  have ps := s.len_pos
  have ls := codeAt_len s 0
  refine ⟨a, C, dx, _, _, rfl, ea, xc.cd.cl, xc.na, rfl, (codeAt 0 s).map ndD, .inl rfl, a, C, dx, _, _, rfl, ea, xc.cd.cl, xc.na, rfl, trivial, by show 2 ≤ sizeLine; omega, ?_, fun m dm hm => ⟨m, dm, _, rfl, updW_same, rfl, ?_⟩⟩
  · rw [List.length_append, List.length_map, ls]
    show s.len + 1 ≤ sizeLine
    omega
  rw [updW_updW]
  have e : (PyData.tuple ((codeAt 0 s).map ndD ++ [.tuple [.str "not", .int (((((codeAt 0 s).map ndD).length : Nat) : Int) - 1)]])) = codeD (codeAt 0 (.not s)) := by
    unfold codeD
    simp only [codeAt, List.map_append, List.length_map, ls, List.map_cons, List.map_nil, ndD, Nat.zero_add]
    rw [show ((s.len : Int) - 1) = ((s.len - 1 : Nat) : Int) by omega]
  exact e ▸ z m dm hm
end
def lb : Nat → Nat
  | 0 => 1
  | n + 1 => 2 * lb n + 2
structure ShR (C b l : Addr) (k : Int) (ω ω' : Wd) (d : Nat) (s : Shp) (m : Addr) : Prop where
  low : s.low
  len : s.len ≤ lb d
  dep : s.dep ≤ d
  bag : ω' b = some .bag
  lst : ∃ k' : Int, ω' l = some (.lst [.int k']) ∧ (s.nests : Int) ≤ k - k' ∧ (0 ≤ k → 0 ≤ k')
  at_ : ∃ dx, ω' m = some (shpM C dx (codeAt 0 s))
  keep : ∀ c x, c ≠ l → ω c = some x → ω' c = some x
  new_ : ω m = none
theorem lb_pos : ∀ d, 1 ≤ lb d
  | 0 => Nat.le_refl _
  | n + 1 => by simp only [lb]; omega
def dsLShape (C : Addr) (n : Nat) : DSp := fun ts ω q _ => ∃ (b l : Addr) (deep : Nat) (k : Int), ts = [refD b, .int (deep : Int), refD l] ∧ ω b = some .bag ∧ ω l = some (.lst [.int k]) ∧ deep < n ∧ n ≤ 5 ∧ ∀ s m ω', ShR C b l k ω ω' deep s m → q (.tuple [refD m, nodeD s]) ω'
theorem ShR.fresh {C b l : Addr} {k : Int} {ω ω1 : Wd} {d : Nat} {s : Shp} {m m' : Addr} (h : ShR C b l k ω ω1 d s m) (hm : ω1 m' = none) : ω m' = none := by
  cases q : ω m' with
  | none => rfl
  | some x =>
    have nl : m' ≠ l := fun e => by
      obtain ⟨k', hl, _⟩ := h.lst
      rw [← e, hm] at hl
      cases hl
    rw [h.keep m' x nl q] at hm
    cases hm
theorem ShR.new {C b l : Addr} {k : Int} {ω ω1 : Wd} {d d' : Nat} {s s' : Shp} {m m' dx : Addr} (h : ShR C b l k ω ω1 d s m) (hm : ω1 m' = none) (low : s'.low) (len : s'.len ≤ lb d') (dep : s'.dep ≤ d') {kk k' : Int} (hk : ω1 l = some (.lst [.int k'])) (ns : (s'.nests : Int) ≤ kk - k') (kp : 0 ≤ kk → 0 ≤ k') :
    ShR C b l kk ω (updW ω1 m' (shpM C dx (codeAt 0 s'))) d' s' m' := by
  have n1 : b ≠ m' := fun e => by have := h.bag; rw [e, hm] at this; cases this
  have n2 : l ≠ m' := fun e => by rw [e, hm] at hk; cases hk
  exact ⟨low, len, dep, by rw [updW_ne n1]; exact h.bag, ⟨k', by rw [updW_ne n2]; exact hk, ns, kp⟩, ⟨dx, updW_same⟩, fun c x hc e => by
    have e1 := h.keep c x hc e
    rw [updW_ne fun z => by rw [z, hm] at e1; cases e1]
    exact e1, h.fresh hm⟩
def recS (C : Addr) (n i j : Nat) : DTS := dAsg (dCall (dsLShape C n) (dCons (dVar 0) (dCons (dOp (intD (fun _ _ => True) fun i j => PyData.int (i - j)) (dVar 1) (dC (.int 1))) (dCons (dVar 2) dNil)))) (dgTup 2 (dgCons (dgName i) (dgCons (dgName j) dgNil)))
theorem rec_ok {C b l : Addr} {n i j d : Nat} {k : Int} {ω : Wd} {D : DEnds} {rest : DS} (hb : ω b = some .bag) (hl : ω l = some (.lst [.int k])) (dn : d < n) (hn : n ≤ 5)
    (nx : ∀ s m ω', ShR C b l k ω ω' d s m → D.nx (((some (refD b) :: some (.int ((d + 1 : Nat) : Int)) :: some (refD l) :: rest).set i (some (refD m))).set j (some (nodeD s))) ω') : recS C n i j D (some (refD b) :: some (.int ((d + 1 : Nat) : Int)) :: some (refD l) :: rest) ω := by
  refine ⟨trivial, b, l, d, k, ?_, hb, hl, dn, hn, fun s m ω' sr => ⟨rfl, rfl, nx s m ω' sr⟩⟩
  show [refD b, PyData.int (((d + 1 : Nat) : Int) - 1), refD l] = _
  rw [show (((d + 1 : Nat) : Int) - 1) = (d : Int) by omega]
section
variable {P : Program} {w : World} {K : PySem.W.Frag} {mg : Str → Option Value} {base : Heap} {C : Addr}
theorem dd_lshape (xc : OS K mg C) (xb : OSB K C) (h : Has K mg "_law_shape" sLShape) (B : Bi mg) (D_law_take : Dfn P w K mg base CX0 1 "_law_take" ["_law_bag_here", "_law_many_here"] (spD K dsTake)) (D_law_leaf : Dfn P w K mg base CX0 4 "_law_leaf" ["_law_bag_here"] (spD K (dsLawLeaf C)))
    (K_lists1 : Kfn P w K mg base CX0 3 C "lists" ["cls", "shape"] [] (spD K (dsLists C))) (K_nested1 : Kfn P w K mg base CX0 3 C "nested" ["cls", "shape"] [] (spD K (dsNested C))) (M_or : Mfn P w K mg base CX0 3 C "__or__" ["self", "other"] (spD K (dsBinS .or C))) (M_and : Mfn P w K mg base CX0 3 C "__and__" ["self", "other"] (spD K (dsBinS .and C)))
    (M_sub : Mfn P w K mg base CX0 3 C "__sub__" ["self", "other"] (spD K (dsBinS .less C))) (M_invert : Mfn P w K mg base CX0 3 C "__invert__" ["self"] (spD K (dsInvS C))) : ∀ n, Dfn P w K mg base CX0 (n + 4) "_law_shape" ["_law_bag_here", "_law_deep", "_law_left"] (spD K (dsLShape C n))
  | 0 => (dfnD_none h (fun _ _ _ _ _ _ us hl => match us, hl with | [_, _, _], _ => rfl) fun ts ω q xx z => by
    obtain ⟨b, l, deep, k, _, _, _, z, _⟩ := z
    omega).mono (by omega)
  | n + 1 => by
    have D_law_shape := dd_lshape xc xb h B D_law_take D_law_leaf K_lists1 K_nested1 M_or M_and M_sub M_invert n
    refine dfnD (k := n + 4) h B scLShape (fun _ _ _ _ _ _ us hl => match us, hl with | [_, _, _], _ => rfl) (fun ts ω q xx h => ?_) (fun f cv A out s H E c => ⟨_, (dss_cons (ds_set (i := 3) scLShape.nd rfl (Or.inl rfl) (de_d D_law_take c (by omega) (by rfl) (da_cons (de_var (pv 0)) (da_cons de_int da_nil))))
    (dss_cons (ds_if (DW.dt (dw_or (dt_cmp (do_eq rfl c.r.units) (de_var (pv 1)) de_int (nomark _)) (dw_or1 (dt_cmp (do_lt rfl) (de_var (pv 3)) de_int (nomark _))))) (dss_one (ds_ret (de_d D_law_leaf c (by omega) (by rfl) (da_cons (de_var (pv 0)) da_nil)))) dss_nil)
    (dss_cons (ds_if (DW.dt (dw_and (dt_cmp (do_lt rfl) (de_var (pv 3)) de_int (nomark _)) (dw_and1 (dt_cmp (do_gt rfl) (de_ix rfl (de_var (pv 2)) de_int (fun _ _ => rfl)) de_int (nomark _))))) (dss_cons (ds_setS (de_var (pv 2)) de_int (de_op (do_sub rfl) (de_ix rfl (de_var (pv 2)) de_int (fun _ _ => rfl)) de_int) set_listO)
    (dss_cons (ds_asg (de_d D_law_shape c (by omega) (by rfl) (da_cons (de_var (pv 0)) (da_cons (de_op (do_sub rfl) (de_var (pv 1)) de_int) (da_cons (de_var (pv 2)) da_nil)))) (dg_tup rfl rfl (dgs_cons (dg_name (pg_name (i := 4) scLShape.nd rfl (Or.inl rfl))) (dgs_cons (dg_name (pg_name (i := 5) scLShape.nd rfl (Or.inl rfl))) dgs_nil))))
    (dss_one (ds_ret (de_if (dt_cmp (do_lt rfl) (de_var (pv 3)) de_int (nomark _)) (de_tup (da_cons (de_kfn rfl (pe_gcl xc.cd.gC (by rfl)) K_lists1 rd0 c (by omega) px0 (da_cons (de_var (pv 4)) da_nil)) (da_cons (de_tup (da_cons de_str (da_cons (de_var (pv 5)) da_nil))) da_nil))) (de_tup (da_cons (de_kfn rfl (pe_gcl xc.cd.gC (by rfl)) K_nested1 rd0 c (by omega) px0 (da_cons (de_var (pv 4)) da_nil)) (da_cons (de_tup (da_cons de_str (da_cons (de_var (pv 5)) da_nil))) da_nil)))))))) dss_nil)
    (dss_cons (ds_asg (de_d D_law_shape c (by omega) (by rfl) (da_cons (de_var (pv 0)) (da_cons (de_op (do_sub rfl) (de_var (pv 1)) de_int) (da_cons (de_var (pv 2)) da_nil)))) (dg_tup rfl rfl (dgs_cons (dg_name (pg_name (i := 4) scLShape.nd rfl (Or.inl rfl))) (dgs_cons (dg_name (pg_name (i := 5) scLShape.nd rfl (Or.inl rfl))) dgs_nil))))
    (dss_cons (ds_if (dt_cmp (do_lt rfl) (de_var (pv 3)) de_int (nomark _)) (dss_one (ds_ret (de_tup (da_cons (de_unM (un_own rfl M_invert c (by omega)) (de_var (pv 4))) (da_cons (de_tup (da_cons de_str (da_cons (de_var (pv 5)) da_nil))) da_nil))))) dss_nil)
    (dss_cons (ds_asg (de_d D_law_shape c (by omega) (by rfl) (da_cons (de_var (pv 0)) (da_cons (de_op (do_sub rfl) (de_var (pv 1)) de_int) (da_cons (de_var (pv 2)) da_nil)))) (dg_tup rfl rfl (dgs_cons (dg_name (pg_name (i := 6) scLShape.nd rfl (Or.inl rfl))) (dgs_cons (dg_name (pg_name (i := 7) scLShape.nd rfl (Or.inl rfl))) dgs_nil))))
    (dss_cons (ds_if (dt_cmp (do_lt rfl) (de_var (pv 3)) de_int (nomark _)) (dss_one (ds_ret (de_tup (da_cons (de_opM (dm_bin rfl M_or c (by omega) xb.bor) (de_var (pv 4)) (de_var (pv 6))) (da_cons (de_tup (da_cons de_str (da_cons (de_var (pv 5)) (da_cons (de_var (pv 7)) da_nil)))) da_nil))))) dss_nil)
    (dss_one (ds_ret (de_if (dt_cmp (do_lt rfl) (de_var (pv 3)) de_int (nomark _)) (de_tup (da_cons (de_opM (dm_bin rfl M_and c (by omega) xb.band) (de_var (pv 4)) (de_var (pv 6))) (da_cons (de_tup (da_cons de_str (da_cons (de_var (pv 5)) (da_cons (de_var (pv 7)) da_nil)))) da_nil))) (de_tup (da_cons (de_opM (dm_bin rfl M_sub c (by omega) xb.bsub) (de_var (pv 4)) (de_var (pv 6))) (da_cons (de_tup (da_cons de_str (da_cons (de_var (pv 5)) (da_cons (de_var (pv 7)) da_nil)))) da_nil))))))))))))), fun ts ω q xx z => ?_⟩)
    · obtain ⟨b, l, deep, k, rfl, _⟩ := h
      rfl
    obtain ⟨b, l, deep, k, rfl, hb, hl, dn, hn, z⟩ := z
    have two : 2 ≤ sizeLine := by decide
    have three : 3 ≤ sizeLine := by decide
    have lp := lb_pos deep
    refine ⟨b, 12, rfl, hb, by decide, by decide, fun r r0 r1 => ?_⟩
    have lv : ∀ x : DXK, dsLawLeaf C [refD b] ω q x := fun x => ⟨b, rfl, hb, fun s m dx s1 s2 s3 hm => by
      have n1 : b ≠ m := fun e => by rw [e, hm] at hb; cases hb
      have n2 : l ≠ m := fun e => by rw [e, hm] at hl; cases hl
      exact z s m _ ⟨s3, by omega, by omega, by rw [updW_ne n1]; exact hb, ⟨k, by rw [updW_ne n2]; exact hl, by have := nests_len s; omega, fun z => z⟩, ⟨dx, updW_same⟩, fun c x hc e => by rw [updW_ne fun y => by rw [y, hm] at e; cases e]; exact e, hm⟩⟩
    refine ite2 (fun _ => lv X0) (fun t0 => ⟨trivial, ite2 (fun _ => lv X0) (fun _ => ?_)⟩)
    obtain ⟨d, rfl⟩ : ∃ d, deep = d + 1 := ⟨deep - 1, by
      have : ¬ ((deep : Int) = 0) := fun e => t0 (decide_eq_true e)
      omega⟩
    have le : lb (d + 1) = 2 * lb d + 2 := rfl
    have lp2 := lb_pos d
    have lk : lb d ≤ 100 := by
      have : d ≤ 4 := by omega
      match d, this with
      | 0, _ => decide
      | 1, _ => decide
      | 2, _ => decide
      | 3, _ => decide
      | 4, _ => decide
    have bpart : (dSeq (recS C n 4 5) (dSeq (dIfS (dTest (dOp (intD (fun _ _ => True) fun i j => PyData.bool (decide (i < j))) (dVar 3) (dC (.int 7)))) (dRet (dTup (dCons (dUnM (rm1 C "__invert__" (dsInvS C)) (dVar 4)) (dCons (dTup (dCons (dC (.str "not")) (dCons (dVar 5) dNil))) dNil)))) dNext)
        (dSeq (recS C n 6 7) (dSeq (dIfS (dTest (dOp (intD (fun _ _ => True) fun i j => PyData.bool (decide (i < j))) (dVar 3) (dC (.int 9)))) (dRet (dTup (dCons (dOpM (rmOwn C "__or__" (RgtOk K C Operator.BitOr.info.snd) (dsBinS .or C)) (dVar 4) (dVar 6)) (dCons (dTup (dCons (dC (.str "or")) (dCons (dVar 5) (dCons (dVar 7) dNil)))) dNil)))) dNext)
          (dRet (dIf (dTest (dOp (intD (fun _ _ => True) fun i j => PyData.bool (decide (i < j))) (dVar 3) (dC (.int 10)))) (dTup (dCons (dOpM (rmOwn C "__and__" (RgtOk K C Operator.BitAnd.info.snd) (dsBinS .and C)) (dVar 4) (dVar 6)) (dCons (dTup (dCons (dC (.str "and")) (dCons (dVar 5) (dCons (dVar 7) dNil)))) dNil)))
            (dTup (dCons (dOpM (rmOwn C "__sub__" (RgtOk K C Operator.Sub.info.snd) (dsBinS .less C)) (dVar 4) (dVar 6)) (dCons (dTup (dCons (dC (.str "less")) (dCons (dVar 5) (dCons (dVar 7) dNil)))) dNil)))))))))
        (endsD q X0) [some (refD b), some (.int ((d + 1 : Nat) : Int)), some (refD l), some (.int r), none, none, none, none] ω := by
      refine rec_ok (i := 4) (j := 5) hb hl (by omega) (by omega) fun s m ω1 s1 => ?_
      obtain ⟨dx, e1⟩ := s1.at_
      obtain ⟨k1, e2, kn1, kp1⟩ := s1.lst
      have sl := s1.len
      refine ⟨trivial, ite2 (fun _ => ?_) (fun _ => ?_)⟩
      · refine ⟨⟨m, _, rfl, e1, rfl, rfl⟩, m, dx, s, rfl, e1, by omega, fun m2 d2 hm => ⟨two, two, z (.not s) m2 _ (s1.new (s' := .not s) hm s1.low ?_ ?_ e2 kn1 kp1)⟩⟩
        · simp only [Shp.len]; omega
        · simp only [Shp.dep]; have := s1.dep; omega
      · skip
        refine rec_ok (i := 6) (j := 7) s1.bag e2 (by omega) (by omega) fun t m3 ω2 s2 => ?_
        obtain ⟨dy, e3⟩ := s2.at_
        obtain ⟨k2, e5, kn2, kp2⟩ := s2.lst
        have tl := s2.len
        have nm : m ≠ l := fun e => by rw [e, e2] at e1; cases e1
        have e4 := s2.keep m _ nm e1
        have both : ∀ (w : Wo) (ω3 : Wd) (m4 : Addr) (d4 : Addr), ω2 m4 = none → ShR C b l k ω (updW ω2 m4 (shpM C d4 (codeAt 0 (w.shp s t)))) (d + 1) (w.shp s t) m4 := fun w ω3 m4 d4 hm => by
          have s3 : ShR C b l k ω ω2 d t m3 := ⟨s2.low, s2.len, s2.dep, s2.bag, ⟨k2, e5, by omega, fun z => kp2 (kp1 z)⟩, s2.at_, fun c x hc e => s2.keep c x hc (s1.keep c x hc e), s1.fresh s2.new_⟩
          have dp1 := s1.dep
          have dp2 := s2.dep
          refine s3.new hm ?_ ?_ ?_ e5 ?_ fun z => kp2 (kp1 z)
          · cases w <;> exact ⟨s1.low, s2.low⟩
          · cases w <;> simp only [Wo.shp, Shp.len] <;> omega
          · cases w <;> simp only [Wo.shp, Shp.dep] <;> omega
          · cases w <;> simp only [Wo.shp, Shp.nests] <;> omega
        refine ⟨trivial, ite2 (fun _ => ?_) (fun _ => ⟨trivial, ite2 (fun _ => ?_) (fun _ => ?_)⟩)⟩
        · exact ⟨⟨m, _, rfl, e4, rfl, rfl⟩, .inr ⟨"x", m3, _, rfl, e3, rfl, rfl⟩, m, m3, dx, dy, s, t, rfl, e4, e3, by omega, by omega, fun m4 d4 hm => ⟨three, two, z (.or s t) m4 _ (both .or ω2 m4 d4 hm)⟩⟩
        · exact ⟨⟨m, _, rfl, e4, rfl, rfl⟩, .inr ⟨"x", m3, _, rfl, e3, rfl, rfl⟩, m, m3, dx, dy, s, t, rfl, e4, e3, by omega, by omega, fun m4 d4 hm => ⟨three, two, z (.and s t) m4 _ (both .and ω2 m4 d4 hm)⟩⟩
        · exact ⟨⟨m, _, rfl, e4, rfl, rfl⟩, .inr ⟨"x", m3, _, rfl, e3, rfl, rfl⟩, m, m3, dx, dy, s, t, rfl, e4, e3, by omega, by omega, fun m4 d4 hm => ⟨three, two, z (.less s t) m4 _ (both .less ω2 m4 d4 hm)⟩⟩
    refine ⟨trivial, ite2 (fun _ => ?_) (fun _ => bpart)⟩
    refine ixD_cell hl (d := .int k) rfl ?_
    refine ⟨trivial, ite2 (fun e0 => ?_) (fun _ => bpart)⟩
    refine ixD_cell hl (d := .int k) rfl ?_
    have k0 : 0 < k := by
      have := of_decide_eq_true e0
      omega
    refine ⟨trivial, l, [.int k], 0, 0, rfl, rfl, hl, rfl, ?_⟩
    have bl : b ≠ l := fun e => by rw [e, hl] at hb; cases hb
    have hb1 : updW ω l (.lst ([PyData.int k].set 0 (.int (k - 1)))) b = some .bag := by rw [updW_ne bl]; exact hb
    have hl1 : updW ω l (.lst ([PyData.int k].set 0 (.int (k - 1)))) l = some (.lst [.int (k - 1)]) := updW_same
    have kp : ∀ c x, c ≠ l → ω c = some x → updW ω l (.lst ([PyData.int k].set 0 (.int (k - 1)))) c = some x := fun c x hc e => by rw [updW_ne hc]; exact e
    have apart : (dSeq (recS C n 4 5) (dRet (dIf (dTest (dOp (intD (fun _ _ => True) fun i j => PyData.bool (decide (i < j))) (dVar 3) (dC (.int 4)))) (dTup (dCons (dKM C (dsLists C) [] (dCons (dVar 4) dNil)) (dCons (dTup (dCons (dC (.str "lists")) (dCons (dVar 5) dNil))) dNil)))
        (dTup (dCons (dKM C (dsNested C) [] (dCons (dVar 4) dNil)) (dCons (dTup (dCons (dC (.str "nested")) (dCons (dVar 5) dNil))) dNil))))))
        (endsD q X0) [some (refD b), some (.int ((d + 1 : Nat) : Int)), some (refD l), some (.int r), none, none, none, none] (updW ω l (.lst ([PyData.int k].set 0 (.int (k - 1))))) := by
      refine rec_ok (i := 4) (j := 5) hb1 hl1 (by omega) (by omega) fun s m ω1 s1 => ?_
      obtain ⟨dx, e1⟩ := s1.at_
      obtain ⟨k1, e2, kn1, kp1⟩ := s1.lst
      have sl := s1.len
      have sd := s1.dep
      have s3 : ShR C b l k ω ω1 d s m := ⟨s1.low, s1.len, s1.dep, s1.bag, ⟨k1, e2, by omega, fun _ => kp1 (by omega)⟩, s1.at_, fun c x hc e => s1.keep c x hc (kp c x hc e), by
        have q := s1.new_
        by_cases e : m = l
        · rw [e, updW_same] at q; cases q
        · rw [updW_ne e] at q; exact q⟩
      refine ⟨trivial, ite2 (fun _ => ?_) (fun _ => ?_)⟩
      · refine ⟨m, dx, codeAt 0 s, rfl, e1, code_ne s, by rw [codeAt_len]; omega, fun m2 d2 hm => ⟨two, two, ?_⟩⟩
        rw [code_lists]
        exact z (.lists s) m2 _ (s3.new (s' := .lists s) hm s1.low (by simp only [Shp.len]; omega) (by simp only [Shp.dep]; omega) e2 (by simp only [Shp.nests]; omega) fun _ => kp1 (by omega))
      · refine ⟨m, dx, codeAt 0 s, rfl, e1, code_ne s, by rw [codeAt_len]; omega, fun m2 d2 hm => ⟨two, two, ?_⟩⟩
        rw [code_nested]
        exact z (.nested s) m2 _ (s3.new (s' := .nested s) hm s1.low (by simp only [Shp.len]; omega) (by simp only [Shp.dep]; omega) e2 (by simp only [Shp.nests]; omega) fun _ => kp1 (by omega))
    exact apart
end
end Tx

namespace Tx
open PySem PySem.Spec PyProof.Rows L2
/-! ## least rows: the theory (plain) -/
/-! ### what a longer list tells -/
theorem settle_ls {n m : Nat} {T : List Bool} {f : Bool} (nd : Nd) : settle .ls n T f nd = settle .ls m T f nd := by cases nd <;> rfl
theorem stl_ls {n m : Nat} : ∀ (c : List Nd) (f T : List Bool), stl .ls n c f T = stl .ls m c f T
  | [], _, _ => by simp [stl]
  | nd :: c, [], _ => by simp [stl]
  | nd :: c, f :: fs, T => by simp only [stl]; rw [settle_ls (m := m), stl_ls c fs]
theorem stl_at {so : So} {n : Nat} {nd : Nd} {f : Bool} : ∀ (c : List Nd) (fl T : List Bool) (i : Nat), fl.length = c.length → c[i]? = some nd → fl[i]? = some f → (stl so n c fl T).getD (T.length + i) false = settle so n ((stl so n c fl T).take (T.length + i)) f nd
  | [], _, _, _, _, h, _ => by simp at h
  | _ :: _, [], _, _, h, _, _ => by simp at h
  | a :: c, b :: fl, T, i, hl, h1, h2 => by
    have pre : ∀ (c : List Nd) (fl T : List Bool), ∃ R, stl so n c fl T = T ++ R := by
      intro c
      induction c with
      | nil => intro fl T; exact ⟨[], by simp [stl]⟩
      | cons x c ih =>
        intro fl T
        cases fl with
        | nil => exact ⟨[], by simp [stl]⟩
        | cons y fl =>
          obtain ⟨R, e⟩ := ih fl (T ++ [settle so n T y x])
          exact ⟨settle so n T y x :: R, by simp only [stl]; rw [e]; simp⟩
    cases i with
    | zero =>
      simp only [List.getElem?_cons_zero, Option.some.injEq] at h1 h2
      subst h1 h2
      simp only [stl]
      obtain ⟨R, e⟩ := pre c fl (T ++ [settle so n T b a])
      rw [e, Nat.add_zero, List.append_assoc, List.take_left, List.getD_eq_getElem?_getD, List.getElem?_append_right (Nat.le_refl _)]
      simp
    | succ i =>
      simp only [List.getElem?_cons_succ] at h1 h2
      simp only [stl]
      have := stl_at (so := so) (n := n) c fl (T ++ [settle so n T b a]) i (by simpa using hl) h1 h2
      rw [List.length_append, List.length_singleton, show T.length + 1 + i = T.length + (i + 1) by omega] at this
      exact this
def fillL (b t : List Bool) (i : Nat) : Nd → Bool
  | .lists k => b.getD i false && t.getD k false
  | _ => false
def fillsL (b t : List Bool) : Nat → List Nd → List Bool
  | _, [] => []
  | i, nd :: c => fillL b t i nd :: fillsL b t (i + 1) c
/-- the truths of a list with one more item -/
def longerB (c : List Nd) (b t : List Bool) : List Bool := stl .ls 0 c (fillsL b t 0 c) []
def appD (v w : PyData) : PyData := .list (its v ++ [w])
theorem fillsL_eq {b t : List Bool} {g : Nd → Bool} : ∀ (c : List Nd) (i : Nat), (∀ j nd, c[j]? = some nd → fillL b t (i + j) nd = g nd) → fillsL b t i c = c.map g
  | [], _, _ => rfl
  | nd :: c, i, h => by
    simp only [fillsL, List.map_cons]
    rw [show fillL b t i nd = g nd from h 0 nd rfl, fillsL_eq c (i + 1) fun j nd' hj => by rw [show i + 1 + j = i + (j + 1) by omega]; exact h (j + 1) nd' hj]
theorem vt_app (c : List Nd) {v : PyData} (w : PyData) (hv : isL v = true) : vt c (appD v w) = longerB c (vt c v) (vt c w) := by
  cases v with
  | list xs =>
    unfold appD longerB
    simp only [its, vt]
    unfold truthsB
    rw [stl_ls (m := 0), fillsL_eq (g := fillB (vtAll c (xs ++ [w]))) c 0 fun j nd hj => ?_]
    rw [Nat.zero_add]
    cases nd with
    | lists k =>
      simp only [fillL, fillB]
      have h := stl_at (so := .ls) (n := xs.length) c (c.map (fillB (vtAll c xs))) [] j (by simp) hj (by rw [List.getElem?_map, hj]; rfl)
      rw [List.length_nil, Nat.zero_add] at h
      rw [h]
      simp only [settle, fillB, vtAll_map, List.map_append, List.map_cons, List.map_nil, List.all_append, List.all_cons, List.all_nil, Bool.and_true, decide_true, Bool.true_and]
    | _ => rfl
  | _ => cases hv
/-! ### the state -/
def same (c : List Nd) (v w : PyData) : Prop := vt c v = vt c w ∧ isL v = isL w
instance {c : List Nd} {v w : PyData} : Decidable (same c v w) := inferInstanceAs (Decidable (_ ∧ _))
def isNew (c : List Nd) (found : List PyData) (v : PyData) : Bool := found.all fun e => !decide (same c e v)
theorem isNew_iff {c : List Nd} {found : List PyData} {v : PyData} : isNew c found v = true ↔ ∀ e ∈ found, ¬ same c e v := by
  simp [isNew]
def freshOf (found : List PyData) (r : PyData) : List PyData := (if isL r = true then found.map fun e => appD r e else []) ++ (found.filter isL).map fun e => appD e r
theorem sz_app {v w : PyData} (h : isL v = true) : szD (appD v w) = szD v + szD w := by
  cases v with
  | list xs => simp only [appD, its, szD, szAll_append, szAll]; omega
  | _ => cases h
theorem isL_app {v w : PyData} : isL (appD v w) = true := rfl
theorem depthAll_append : ∀ (xs ys : List PyData), PyData.depthAll (xs ++ ys) = max (PyData.depthAll xs) (PyData.depthAll ys)
  | [], ys => by simp [PyData.depthAll]
  | x :: xs, ys => by simp only [List.cons_append, PyData.depthAll, depthAll_append xs ys]; omega
theorem depth_app {v w : PyData} (h : isL v = true) : (appD v w).depth = max v.depth (1 + w.depth) := by
  cases v with
  | list xs => simp only [appD, its, PyData.depth, depthAll_append, PyData.depthAll]; omega
  | _ => cases h
theorem val_app {v w : PyData} (h : isL v = true) (hv : isVal v = true) (hw : isVal w = true) : isVal (appD v w) = true := by
  cases v with
  | list xs =>
    simp only [isVal] at hv
    simp only [appD, its, isVal]
    exact isValAll_iff.mpr fun d hd => by
      rcases List.mem_append.mp hd with h1 | h1
      · exact isValAll_iff.mp hv d h1
      · obtain rfl := List.mem_singleton.mp h1; exact hw
  | _ => cases h
theorem same_app {c : List Nd} {v v' w w' : PyData} (hv : isL v = true) (hv' : isL v' = true) (h1 : vt c v = vt c v') (h2 : vt c w = vt c w') : same c (appD v w) (appD v' w') := ⟨by rw [vt_app c w hv, vt_app c w' hv', h1, h2], rfl⟩
theorem same.trans {c : List Nd} {u v w : PyData} (h : same c u v) (g : same c v w) : same c u w := ⟨h.1.trans g.1, h.2.trans g.2⟩
/-- what is found and what waits -/
structure LR (c : List Nd) (F : List PyData) (found wait : List PyData) : Prop where
  new : ∀ w ∈ wait, isNew c found w = true
  val : ∀ v, v ∈ found ∨ v ∈ wait → isVal v = true
  sort : found.Pairwise fun v w => szD v ≤ szD w
  le : ∀ v ∈ found, ∀ w ∈ wait, szD v ≤ szD w
  dist : found.Pairwise fun v w => ¬ same c v w
  first : ∀ w ∈ F, w ∈ wait ∨ ∃ v ∈ found, same c v w ∧ szD v ≤ szD w
  app : ∀ v ∈ found, ∀ e ∈ found, isL v = true → appD v e ∈ wait ∨ ∃ u ∈ found, same c u (appD v e) ∧ szD u ≤ szD (appD v e)
  src : ∀ v, v ∈ found ∨ v ∈ wait → isL v = false → v ∈ F
def nextW (c : List Nd) (found wait : List PyData) (r : PyData) : List PyData := (wait ++ freshOf (found ++ [r]) r).filter (isNew c (found ++ [r]))
theorem mem_fresh {found : List PyData} {r v : PyData} (h : v ∈ freshOf found r) : ∃ a b, a ∈ found ∧ b ∈ found ∧ isL a = true ∧ v = appD a b ∨ ∃ b, b ∈ found ∧ isL r = true ∧ v = appD r b ∨ ∃ a, a ∈ found ∧ isL a = true ∧ v = appD a r := by
  unfold freshOf at h
  rcases List.mem_append.mp h with h | h
  · split at h
    · obtain ⟨e, he, rfl⟩ := List.mem_map.mp h
      exact ⟨r, e, .inr ⟨e, .inl ⟨he, by assumption, rfl⟩⟩⟩
    · cases h
  · obtain ⟨e, he, rfl⟩ := List.mem_map.mp h
    obtain ⟨h1, h2⟩ := List.mem_filter.mp he
    exact ⟨r, e, .inr ⟨e, .inr ⟨e, h1, h2, rfl⟩⟩⟩
/-- a piece of what is fresh -/
theorem fresh_of {found : List PyData} {r v : PyData} (hr : r ∈ found) (h : v ∈ freshOf found r) : ∃ a b, a ∈ found ∧ b ∈ found ∧ isL a = true ∧ v = appD a b ∧ (a = r ∨ b = r) := by
  unfold freshOf at h
  rcases List.mem_append.mp h with h | h
  · split at h
    · obtain ⟨e, he, rfl⟩ := List.mem_map.mp h
      exact ⟨r, e, hr, he, by assumption, rfl, .inl rfl⟩
    · cases h
  · obtain ⟨e, he, rfl⟩ := List.mem_map.mp h
    obtain ⟨h1, h2⟩ := List.mem_filter.mp he
    exact ⟨e, r, h1, hr, h2, rfl, .inr rfl⟩
theorem fresh_in {found : List PyData} {r a b : PyData} (ha : a ∈ found) (hb : b ∈ found) (hl : isL a = true) (h : a = r ∨ b = r) : appD a b ∈ freshOf found r := by
  unfold freshOf
  rcases h with rfl | rfl
  · rw [if_pos hl]
    exact List.mem_append_left _ (List.mem_map.mpr ⟨b, hb, rfl⟩)
  · exact List.mem_append_right _ (List.mem_map.mpr ⟨a, List.mem_filter.mpr ⟨ha, hl⟩, rfl⟩)
theorem LR.step {c : List Nd} {F found wait : List PyData} {r : PyData} (h : LR c F found wait) (hr : r ∈ wait) (hm : ∀ w ∈ wait, szD r ≤ szD w) : LR c F (found ++ [r]) (nextW c found wait r) := by
  have rn := isNew_iff.mp (h.new r hr)
  have fin : ∀ x, x ∈ found ++ [r] → x ∈ found ∨ x = r := fun x hx => by
    rcases List.mem_append.mp hx with z | z
    · exact .inl z
    · exact .inr (List.mem_singleton.mp z)
  have rm : r ∈ found ++ [r] := List.mem_append_right _ List.mem_cons_self
  have szr : ∀ x ∈ found ++ [r], szD x ≤ szD r := fun x hx => by
    rcases fin x hx with z | rfl
    · exact h.le x z r hr
    · exact Nat.le_refl _
  have vf : ∀ x ∈ found ++ [r], isVal x = true := fun x hx => by
    rcases fin x hx with z | rfl
    · exact h.val x (.inl z)
    · exact h.val x (.inr hr)
  have fr : ∀ v ∈ freshOf (found ++ [r]) r, isVal v = true ∧ szD r ≤ szD v ∧ isL v = true := fun v hv => by
    obtain ⟨a, b, ha, hb, hl, rfl, e⟩ := fresh_of rm hv
    refine ⟨val_app hl (vf a ha) (vf b hb), ?_, rfl⟩
    rw [sz_app hl]
    rcases e with rfl | rfl <;> omega
  have wt : ∀ w ∈ nextW c found wait r, (w ∈ wait ∨ w ∈ freshOf (found ++ [r]) r) ∧ isNew c (found ++ [r]) w = true := fun w hw => by
    obtain ⟨h1, h2⟩ := List.mem_filter.mp hw
    exact ⟨List.mem_append.mp h1, h2⟩
  have wle : ∀ w ∈ nextW c found wait r, szD r ≤ szD w := fun w hw => by
    rcases (wt w hw).1 with z | z
    · exact hm w z
    · exact (fr w z).2.1
  -- what was to come is still to come, or is found
  have keep : ∀ w, (w ∈ wait ∨ w ∈ freshOf (found ++ [r]) r) → w ∈ nextW c found wait r ∨ ∃ v ∈ found ++ [r], same c v w ∧ szD v ≤ szD w := fun w hw => by
    by_cases z : isNew c (found ++ [r]) w = true
    · exact .inl (List.mem_filter.mpr ⟨List.mem_append.mpr hw, z⟩)
    · right
      have z2 : ¬ ∀ e ∈ found ++ [r], ¬ same c e w := fun y => z (isNew_iff.mpr y)
      obtain ⟨e, he, hs⟩ : ∃ e, e ∈ found ++ [r] ∧ same c e w := by
        refine Classical.byContradiction fun y => z2 fun e he hs => y ⟨e, he, hs⟩
      refine ⟨e, he, hs, Nat.le_trans (szr e he) ?_⟩
      rcases hw with y | y
      · exact hm w y
      · exact (fr w y).2.1
  have up : ∀ w, (∃ v ∈ found, same c v w ∧ szD v ≤ szD w) → ∃ v ∈ found ++ [r], same c v w ∧ szD v ≤ szD w := fun w ⟨v, h1, h2⟩ => ⟨v, List.mem_append_left _ h1, h2⟩
  refine ⟨fun w hw => (wt w hw).2, fun v hv => ?_, ?_, fun v hv w hw => Nat.le_trans (szr v hv) (wle w hw), ?_, fun w hw => ?_, fun v hv e he hl => ?_, fun v hv hl => ?_⟩
  · rcases hv with z | z
    · exact vf v z
    · rcases (wt v z).1 with y | y
      · exact h.val v (.inr y)
      · exact (fr v y).1
  · exact List.pairwise_append.mpr ⟨h.sort, List.pairwise_singleton _ _, fun a ha b hb => by obtain rfl := List.mem_singleton.mp hb; exact h.le a ha b hr⟩
  · exact List.pairwise_append.mpr ⟨h.dist, List.pairwise_singleton _ _, fun a ha b hb => by obtain rfl := List.mem_singleton.mp hb; exact rn a ha⟩
  · rcases h.first w hw with z | z
    · exact keep w (.inl z)
    · exact .inr (up w z)
  · by_cases z : v = r ∨ e = r
    · exact keep _ (.inr (fresh_in hv he hl z))
    · have hv2 : v ∈ found := (fin v hv).resolve_right fun y => z (.inl y)
      have he2 : e ∈ found := (fin e he).resolve_right fun y => z (.inr y)
      rcases h.app v hv2 e he2 hl with y | y
      · exact keep _ (.inl y)
      · exact .inr (up _ y)
  · rcases hv with z | z
    · rcases fin v z with y | rfl
      · exact h.src v (.inl y) hl
      · exact h.src v (.inr hr) hl
    · rcases (wt v z).1 with y | y
      · exact h.src v (.inr y) hl
      · rw [(fr v y).2.2] at hl; cases hl
/-! ### texts -/
def mxOk (mx : Nat) : Nd → Prop
  | .text lo hi => lo ≤ (mx : Int) ∧ 0 ≤ lo ∧ ∀ h, hi = some h → 0 ≤ h ∧ h ≤ (mx : Int)
  | _ => True
theorem settle_tx {mx n m : Nat} {T : List Bool} {f : Bool} {nd : Nd} (h : mxOk mx nd) (hn : mx < n) (hm : mx < m) : settle .tx n T f nd = settle .tx m T f nd := by
  cases nd with
  | text lo hi =>
    obtain ⟨h1, h2, h3⟩ := h
    simp only [settle]
    rw [decide_eq_true (show lo ≤ (n : Int) by omega), decide_eq_true (show lo ≤ (m : Int) by omega)]
    cases hi with
    | none => rfl
    | some b =>
      have := h3 b rfl
      simp only
      rw [decide_eq_false (show ¬ (n : Int) ≤ b by omega), decide_eq_false (show ¬ (m : Int) ≤ b by omega)]
  | _ => rfl
theorem stl_tx {mx n m : Nat} (hn : mx < n) (hm : mx < m) : ∀ (c : List Nd) (f T : List Bool), (∀ nd ∈ c, mxOk mx nd) → stl .tx n c f T = stl .tx m c f T
  | [], _, _, _ => by simp [stl]
  | nd :: c, [], _, _ => by simp [stl]
  | nd :: c, f :: fs, T, h => by
    simp only [stl]
    rw [settle_tx (h nd List.mem_cons_self) hn hm, stl_tx hn hm c fs _ fun x hx => h x (List.mem_cons_of_mem _ hx)]
/-- a text of n letters a -/
def aS (n : Nat) : Str := ⟨Array.replicate n 97⟩
theorem aS_len {n : Nat} : (aS n).length = n := by
  show (Array.replicate n 97).size = n
  simp
/-- the first rows -/
def firsts (mx : Nat) : List PyData := [.none, .list []] ++ (List.range (mx + 2)).map fun n => .str (aS n)
theorem firsts_val {mx : Nat} {d : PyData} (h : d ∈ firsts mx) : isVal d = true ∧ szD d ≤ mx + 2 ∧ d.depth ≤ 1 := by
  unfold firsts at h
  rcases List.mem_append.mp h with h | h
  · rcases List.mem_cons.mp h with rfl | h
    · exact ⟨rfl, by simp only [szD]; omega, by simp [PyData.depth]⟩
    · obtain rfl := List.mem_singleton.mp h
      exact ⟨rfl, by simp only [szD, szAll]; omega, by simp [PyData.depth, PyData.depthAll]⟩
  · obtain ⟨n, hn, rfl⟩ := List.mem_map.mp h
    have := List.mem_range.mp hn
    refine ⟨?_, by simp only [szD, aS_len]; omega, by simp [PyData.depth]⟩
    simp only [isVal, ltr, List.all_eq_true, decide_eq_true_eq, aS]
    intro c hc
    have := List.eq_of_mem_replicate (by simpa using hc)
    omega
/-- each value is met by one that is found -/
theorem LR.met {c : List Nd} {mx : Nat} {found : List PyData} (hx : ∀ nd ∈ c, mxOk mx nd) (h : LR c (firsts mx) found []) : ∀ (k : Nat) (d : PyData), szD d ≤ k → isVal d = true → ∃ v ∈ found, same c v d ∧ szD v ≤ szD d := by
  have fst : ∀ w ∈ firsts mx, ∃ v ∈ found, same c v w ∧ szD v ≤ szD w := fun w hw => by
    rcases h.first w hw with z | z
    · cases z
    · exact z
  intro k
  induction k with
  | zero => intro d hk _; have := szD_pos d; omega
  | succ k ih =>
    intro d hk hv
    cases d with
    | none => exact fst .none (by simp [firsts])
    | str x =>
      by_cases hl : x.length ≤ mx + 1
      · obtain ⟨v, h1, h2, h3⟩ := fst (.str (aS x.length)) (List.mem_append_right _ (List.mem_map.mpr ⟨x.length, List.mem_range.mpr (by omega), rfl⟩))
        refine ⟨v, h1, h2.trans ⟨?_, rfl⟩, by simpa only [szD, aS_len] using h3⟩
        simp only [vt, aS_len]
      · obtain ⟨v, h1, h2, h3⟩ := fst (.str (aS (mx + 1))) (List.mem_append_right _ (List.mem_map.mpr ⟨mx + 1, List.mem_range.mpr (by omega), rfl⟩))
        refine ⟨v, h1, h2.trans ⟨?_, rfl⟩, by simp only [szD, aS_len] at h3 ⊢; omega⟩
        simp only [vt, aS_len]
        unfold truthsB
        exact stl_tx (by omega) (by omega) c _ _ hx
    | list xs =>
      rcases List.eq_nil_or_concat xs with rfl | ⟨ys, y, rfl⟩
      · exact fst (.list []) (by simp [firsts])
      · simp only [isVal] at hv
        have hs : szD (.list (ys.concat y)) = szD (.list ys) + szD y := by simp only [szD, List.concat_eq_append, szAll_append, szAll]; omega
        have py := szD_pos y
        have pl := szD_pos (.list ys)
        obtain ⟨v, h1, h2, h3⟩ := ih (.list ys) (by omega) (by simp only [isVal]; exact isValAll_iff.mpr fun d hd => isValAll_iff.mp hv d (by simp [hd]))
        obtain ⟨w, g1, g2, g3⟩ := ih y (by omega) (isValAll_iff.mp hv y (by simp))
        have lv : isL v = true := h2.2
        obtain ⟨u, k1, k2, k3⟩ : ∃ u ∈ found, same c u (appD v w) ∧ szD u ≤ szD (appD v w) := by
          rcases h.app v h1 w g1 lv with z | z
          · cases z
          · exact z
        refine ⟨u, k1, k2.trans ?_, by rw [sz_app lv] at k3; omega⟩
        have := same_app (c := c) (v := v) (v' := .list ys) (w := w) (w' := y) lv rfl h2.1 g2.1
        rw [List.concat_eq_append]
        exact this
    | _ => simp [isVal] at hv
end Tx

namespace Tx
open PySem PySem.Spec PyProof.Rows L2
/-! ## Comprehensions of two clauses with conditions; sorted(set(..)) of ints -/
theorem nodup_le {α : Type} [DecidableEq α] : ∀ {l m : List α}, l.Nodup → (∀ x ∈ l, x ∈ m) → l.length ≤ m.length
  | [], _, _, _ => Nat.zero_le _
  | x :: l, m, nd, h => by
    have hx := h x List.mem_cons_self
    obtain ⟨n1, n2⟩ := List.nodup_cons.mp nd
    have := nodup_le (m := m.erase x) n2 fun y hy => (List.mem_erase_of_ne (show y ≠ x from fun e => n1 (e ▸ hy))).mpr (h y (List.mem_cons_of_mem _ hy))
    rw [List.length_erase_of_mem hx] at this
    have := List.length_pos_of_mem hx
    simp only [List.length_cons]
    omega
section
variable {P : Program} {w : World} {A : Around} {E : Value → Shared → Prop} {s : Shared}
set_option maxRecDepth 100000 in
set_option maxHeartbeats 3200000 in
/-- set(x), x a list of ints -/
theorem call_set_listI {l : Addr} {items : Array Value} (ns : List Int) {Q : Value → Shared → Prop} (hh : A.handled = none) (hl : s.heap.IsList l items) (hit : IntsAre items.toList ns) (hb : ns.length + 1 < scanBound)
    (h : ∀ (h' : Heap) (tk c : Nat), SetR w h' s.heap.objs.size (fun j => decide (j ∈ ns)) c → (∀ b o, s.heap.get? b = some o → h'.get? b = some o) → Q (.ref s.heap.objs.size) { s with heap := h', toks := tk }) :
    wpAny (model P w) A (call (.type "set") [.ref l]) Q E s := by
  have hisz : items.size = ns.length := by
    have q := IntsAre.length hit
    rw [Array.length_toList] at q
    exact q
  obtain ⟨c, tl, hmro⟩ := F.called_set.mro
  have hmade := F.called_set.made
  have hsub := F.called_set.sub
  refine wpAny_call (codeAny_of_tree ?_)
  show wpAny _ _ (callAny (.type "set") _) _ _ _
  refine wpAny_pure ⟨Code.quiet_builtin _ (by decide +kernel), codeAny_builtin F.entry_type_call ?_⟩
  rw [Around.under_plain (weight_type_call_type "set" [.ref l] []) rfl]
  have h1 := F.called_set.notType
  have h2 := F.called_set.canCreate
  have hct := F.typeCall_set_1 (.ref l)
  repeat (any_goals (first | assumption | wp_step))
  refine codeAny_mono (code_set_led1 (.ref l) (E := E) (Q₁ := fun obj s₁ => obj = .ref s.heap.objs.size ∧ s₁ = { s with heap := s.heap.push { cls := .type "set", dict := none, data := .set #[] 0 (.fresh 0 0 (!w.params.followText "set-order")) } }) ⟨rfl, rfl⟩) fun r s₁ hr => ?_
  cases r with
  | error e => exact hr
  | ok fl =>
    cases fl with
    | ret obj =>
      obtain ⟨rfl, rfl⟩ := hr
      have hS : (s.heap.push { cls := .type "set", dict := none, data := .set #[] 0 (.fresh 0 0 (!w.params.followText "set-order")) }).get? s.heap.objs.size = some { cls := .type "set", dict := none, data := .set #[] 0 (.fresh 0 0 (!w.params.followText "set-order")) } := Heap.get?_push_size _ rfl
      have hT : Shared.TypeIs { s with heap := s.heap.push { cls := .type "set", dict := none, data := .set #[] 0 (.fresh 0 0 (!w.params.followText "set-order")) } } (.ref s.heap.objs.size) "set" := ⟨_, hS, rfl⟩
      have hli := F.called_set.init.lookup
      have hbi := F.called_set.init.bind (.ref s.heap.objs.size)
      repeat (any_goals (first | assumption | wp_step))
      refine codeAny_mono (codeAny_call_builtin (R := wants (fun r s₂ => r = .none ∧ ∃ h' tk c, s₂ = { s with heap := h', toks := tk } ∧ SetR w h' s.heap.objs.size (fun j => decide (j ∈ ns)) c ∧
          (∀ b o, s.heap.get? b = some o → h'.get? b = some o)) E) F.called_set.init.plain F.entry_set_init (check_set_init_1 hT ?_)) fun r₂ s₂ hr₂ => ?_
      · obtain ⟨ol, hol, hcl, nl, hdl⟩ := hl
        obtain ⟨ocls, odict, odata, oslots⟩ := ol
        simp only at hcl hdl
        subst hcl; subst hdl
        have hol' : (s.heap.push { cls := .type "set", dict := none, data := .set #[] 0 (.fresh 0 0 (!w.params.followText "set-order")) }).get? l = some { cls := .type "list", dict := odict, data := .seq items nl, slots := oslots } := Heap.get?_push_of_some _ hol
        have hsls := F.sub_list_set
        have hslf := F.sub_list_frozenset
        have hne : (Value.type "list" == Value.type "dict") = false := by decide
        have hl1 : (s.heap.push { cls := .type "set", dict := none, data := .set #[] 0 (.fresh 0 0 (!w.params.followText "set-order")) }).IsList l items := ⟨_, hol', rfl, nl, rfl⟩
        unfold Builtin.«set.__init__» noKeywords Builtin.Frozenset.updateFrom
        generalize hPI : pyIter = PI
        wp_walk
        subst hPI
        refine wpAny_pyIter_list hl1 ?_
        refine wpAny_bind (wpAny_runValue ?_)
        have hlS : l < s.heap.objs.size := Heap.lt_size hol
        have hh3 : A.in1.in1.in1.handled = none := by simp [hh]
        have hneI : l ≠ (s.heap.push { cls := .type "set", dict := none, data := .set #[] 0 (.fresh 0 0 (!w.params.followText "set-order")) }).objs.size := by
          rw [Heap.size_push]; exact Nat.ne_of_lt (Nat.lt_succ_of_lt hlS)
        have hSf : s.heap.objs.size ∉ [(s.heap.push { cls := .type "set", dict := none, data := .set #[] 0 (.fresh 0 0 (!w.params.followText "set-order")) }).objs.size, l] := by
          rw [Heap.size_push]; simp only [List.mem_cons, List.mem_singleton, List.not_mem_nil, or_false, not_or]
          exact ⟨Nat.ne_of_lt (Nat.lt_succ_self _), Nat.ne_of_gt hlS⟩
        have hval : ∀ (i : Nat) (v : Value), items[i]? = some v → ∃ k t, ns[i]? = some k ∧ v = .int k t := fun i v hv => by
          have hi : i < ns.length := by rw [← hisz]; exact (Array.getElem?_eq_some_iff.mp hv).1
          obtain ⟨t, e⟩ := PyProof.Rows.IntsAre.int_at hit i v (by rw [Array.getElem?_toList]; exact hv)
          refine ⟨ns[i], t, List.getElem?_eq_getElem hi, ?_⟩
          rw [e, List.getD_eq_getElem?_getD, List.getElem?_eq_getElem hi] <;> rfl
        refine set_update_ints ((Walks.list hh3 _ l hneI items).toS) s.heap.objs.size hSf ns hisz hb hval (items.size - 0) 0 _ (by omega) (Nat.zero_le _)
          ⟨⟨_, Heap.get?_push_size _ rfl, rfl, rfl⟩, (hl1.push _)⟩ ?hS0 ?hR
        case hS0 =>
          have hget : ((s.heap.push { cls := .type "set", dict := none, data := .set #[] 0 (.fresh 0 0 (!w.params.followText "set-order")) }).push { cls := .type "list_iterator", data := .fields #[.ref l, .int 0 0] }).get? s.heap.objs.size
              = some { cls := .type "set", dict := none, data := .set #[] 0 (.fresh 0 0 (!w.params.followText "set-order")) } := Heap.get?_push_of_some _ hS
          exact ⟨0, Nat.le_refl 0, setR_new_at hget⟩
        case hR =>
          intro s' c' hm hc' hS'
          obtain ⟨h', g2, d', tk', os'⟩ := s'
          have eg : g2 = s.gens := hm.gens
          have ed : d' = s.drawn := hm.drawn
          have eo : os' = s.os := hm.os
          subst eg; subst ed; subst eo
          show wpAny _ _ _ _ _ _
          refine wpAny_pure ?_
          show wpAny _ _ (ret Value.none) _ _ _
          refine wpAny_pure ⟨rfl, h', tk', c', rfl, hS', fun b o e => ?_⟩
          have hb0 : b < s.heap.objs.size := Heap.lt_size e
          have hb1 : b ≠ s.heap.objs.size := Nat.ne_of_lt hb0
          have hb2 : b ≠ (s.heap.push { cls := .type "set", dict := none, data := .set #[] 0 (.fresh 0 0 (!w.params.followText "set-order")) }).objs.size := by
            rw [Heap.size_push]; exact Nat.ne_of_lt (Nat.lt_succ_of_lt hb0)
          exact hm.heap b o (by simp only [List.mem_cons, List.mem_singleton, List.not_mem_nil, or_false, not_or]; exact ⟨hb1, hb2⟩) (Heap.get?_push_of_some _ (Heap.get?_push_of_some _ e))
      · cases r₂ with
        | error e => exact hr₂
        | ok fl₂ =>
          cases fl₂ with
          | ret r =>
            obtain ⟨rfl, h', tk, c', rfl, hS', hk'⟩ := hr₂
            repeat (any_goals (first | assumption | wp_step))
            exact h _ _ _ hS' hk'
          | _ => exact hr₂.elim
    | _ => exact hr.elim
end
def rSetI (K : PySem.W.Frag) (w : World) : List V → Hp → VK → Prop := fun xs H Q => ∃ (a : Addr) (ns : List Int), xs = [.ref a] ∧ SqL K H a (ns.map V.int) ∧ ns.length + 1 < scanBound ∧
  ∀ p c, (∀ l : List Int, (∀ k ∈ ns, k ∈ l) → c ≤ l.length) → H p = none → Q (.ref p) (upd H p (SetO w p (fun j => decide (j ∈ ns)) c))
section
variable {X : Cx}
theorem cr_setI (hc : X.calm = true) : CallR X (.type "set") (rSetI X.K X.w) := by
  intro pins s σ H xs us Q I r h
  obtain ⟨a, ns, rfl, hq, hb, q⟩ := h
  rw [Vals.ref1 r]
  obtain ⟨its, rv, pl, hz⟩ := I.list hq
  have hi : IntsAre its.toArray.toList ns := ints_of_vals rv
  refine call_set_listI ns (I.ok.hd hc) pl.isList hi hb fun h' tk c R1 k => ?_
  refine ⟨.ref _, upd H s.heap.objs.size (SetO X.w s.heap.objs.size (fun j => decide (j ∈ ns)) c), I.laid (t' := tk) k (Nat.le_refl _) (setO_new R1), rfl, q _ c (fun l hl => ?_) (I.hok.fresh (Nat.le_refl _))⟩
  obtain ⟨o, es, ep, t, ho, hex, hdt, g, nd, hm2, hb2, hf, hn, hr, hl2⟩ := R1
  rw [← hn, ← Array.length_toList, ← List.length_map (f := keyOf)]
  exact nodup_le nd fun x hx => hl x (by have := (hm2 x).mpr hx; simpa using this)
end
def dSortSet (te : DTE) (ρ : DS) (ω : Wd) (q : DQ) (x : DXK) : Prop := te ρ ω (fun r ω1 => ∃ ns : List Int, rsv ω1 r = .list (ns.map PyData.int) ∧ ns.length + 1 < scanBound ∧ (∀ k ∈ ns, 0 ≤ k ∧ k < 63) ∧ ∀ ys : List Int, (∀ k : Int, k ∈ ys ↔ k ∈ ns) → ys.length ≤ 63 → q (.list (ys.map PyData.int)) ω1) x
theorem rpAll_intB {K : PySem.W.Frag} {J : Hp} : ∀ {ns : List Int} {vs : List V}, RpAll K J vs (ns.map PyData.int) → vs = ns.map V.int
  | [], _, h => by cases h; rfl
  | n :: ns, _, h => by
    cases h with
    | cons h1 h2 =>
      cases h1
      rw [rpAll_intB h2]
      rfl
theorem rpAll_intR {K : PySem.W.Frag} {J : Hp} : ∀ ns : List Int, RpAll K J (ns.map V.int) (ns.map PyData.int)
  | [] => .nil
  | n :: ns => .cons (.int n) (rpAll_intR ns)
section
variable {W : WX} {X : Cx} {K : PySem.W.Frag} {e : Expr} {te : DTE} {p p2 pos pos2 : Pos}
theorem de_sortSet (hK : X.K = K) (hc : X.calm = true) (hg : Gl X "sorted") (hm : X.mg "sorted" = none) (hg2 : Gl X "set") (hm2 : X.mg "set" = none) (he : DE W X K e te)
    (na : starEach [e] X.env = (false, eval e X.env) :: starEach [] X.env := by rfl) (na2 : starEach [Expr.Call (.Name "set" p2) [e] [] pos2] X.env = (false, eval (.Call (.Name "set" p2) [e] [] pos2) X.env) :: starEach [] X.env := by rfl) :
    DE W X K (.Call (.Name "sorted" p) [.Call (.Name "set" p2) [e] [] pos2] [] pos) (dSortSet te) := by
  subst hK
  obtain ⟨r, pe, k⟩ := he
  refine ⟨_, pe_callB (cr_sortedSet hc) hg hm (by decide +kernel) (pa_cons (pe_callTy (cr_setI hc) hg2 hm2 (by decide +kernel) (pa_cons pe pa_nil na) (by decide) (by decide) na rfl) pa_nil na2) (by decide) (by decide) na2 rfl, fun σ H J ω ρ q x Q w s cq cx z => k σ H J ω ρ _ x _ w s (fun r ω1 v J1 H1 z1 g1 w1 rp => ?_) cx z⟩
  obtain ⟨ns, e1, hb, hr, z1⟩ := z1
  obtain ⟨a, vs, rfl, ha, ra⟩ := rp_list w1 rp e1
  obtain rfl := rpAll_intB ra
  refine ⟨a, ns, rfl, SqL.of ha, hb, fun p c hcl hp => ?_⟩
  have c64 : c ≤ 63 := by
    have := hcl ((List.range 63).map fun i => ((i : Nat) : Int)) fun k hk => List.mem_map.mpr ⟨k.toNat, List.mem_range.mpr (by have := hr k hk; omega), by have := hr k hk; omega⟩
    simpa using this
  refine ⟨p, _, c, rfl, upd_same, by omega, fun ys p3 pw hm3 hl hp3 => ?_⟩
  have g2 : Grow J1 H1 ω1 J1 (upd H1 p (SetO X.w p (fun j => decide (j ∈ ns)) c)) ω1 := Grow.junk hp _
  have w2 := w1.junk hp (SetO X.w p (fun j => decide (j ∈ ns)) c)
  exact ((cq.step g1).step g2).newL w2 (z1 ys (fun k => by rw [hm3 k]; simp) (by omega)) (rpAll_intR ys) hp3
end
/-- the second clause's loop, with conditions -/
def lcInC (gd1 : DTG) (tt1 : DTT) (te : DTE) (vs1 : List Nat) (ρ : DS) (acc : List PyData) (nx : List PyData → Wd → Prop) (xs : List PyData) (P : Wd → Prop) (ω : Wd) : Prop := ∃ Inv1 : Nat → List PyData → Wd → Prop, Inv1 0 acc ω ∧ (∀ j a ω2, Inv1 j a ω2 → P ω2) ∧
  (∀ j y a ω2, xs[j]? = some y → Inv1 j a ω2 → gd1 y (wipeD ρ vs1) fun ρ' => tt1 ρ' ω2 (fun b ω3 => if b = true then te ρ' ω3 (fun r ω4 => a.length < sizeLine ∧ Inv1 (j + 1) (a ++ [r]) ω4) X0 else Inv1 (j + 1) a ω3) X0) ∧ ∀ a ω2, Inv1 xs.length a ω2 → nx a ω2
def lcOutC (gd : DTG) (tt : DTT) (di1 : DTIo) (gd1 : DTG) (tt1 : DTT) (te : DTE) (vs vs1 : List Nat) (ρ : DS) (q : DQ) (xs : List PyData) (P : Wd → Prop) (ω1 : Wd) : Prop := ∃ Inv : Nat → List PyData → Wd → Prop, Inv 0 [] ω1 ∧ (∀ i acc ω2, Inv i acc ω2 → P ω2) ∧
  (∀ i y acc ω2, xs[i]? = some y → Inv i acc ω2 → gd y (wipeD ρ vs) fun ρ' => tt ρ' ω2 (fun b ω3 => if b = true then di1 ρ' ω3 (lcInC gd1 tt1 te vs1 ρ' acc (fun a ω3 => Inv (i + 1) a ω3)) X0 else Inv (i + 1) acc ω3) X0) ∧
  ∀ acc ω2, Inv xs.length acc ω2 → ∀ p, ω2 p = none → q (refD p) (updW ω2 p (.lst acc))
def dLc2C (di : DTIo) (gd : DTG) (tt : DTT) (di1 : DTIo) (gd1 : DTG) (tt1 : DTT) (te : DTE) (vs vs1 : List Nat) (ρ : DS) (ω : Wd) (q : DQ) (x : DXK) : Prop := di ρ ω (lcOutC gd tt di1 gd1 tt1 te vs vs1 ρ q) x
section
variable {W : WX} {X : Cx} {K : PySem.W.Frag} {elt tg iter tg1 iter1 : Expr} {ifs ifs1 : List Expr} {tt tt1 : DTT} {scope : Scope} {own : List (Str × Nat)} {pos : Pos} {is is1 vs1 : List Nat} {di di1 : DTIo} {gd gd1 : DTG} {te : DTE}
theorem lc2C_run {wi : TI} (hi : ∀ σ H J ω ρ (k : List PyData → (Wd → Prop) → Wd → Prop) x (R : It → Hp → Prop), Rw K J H ω → Sl K J σ ρ → (∀ xs P ω1 J1 H1 I, k xs P ω1 → Grow J H ω J1 H1 ω1 → Rw K J1 H1 ω1 → WalkP K J1 I xs P → R I H1) →
    CovX K J H ω x (fun c d H => W c d σ H) → di ρ ω k x → wi σ H R) {vs : List Nat} (his : ∀ i ∈ is, i ∈ vs) (his1 : ∀ i ∈ is1, i ∈ vs1)
    {σ : L2.St} {H J : Hp} {ω : Wd} {ρ : DS} {q : DQ} {x : DXK} {Q : VK} (w : Rw K J H ω) (s : Sl K J σ ρ) (cq : CovQ K J H ω q Q) (cx : CovX K J H ω x (fun c d H => W c d σ H)) (z : dLc2C di gd tt di1 gd1 tt1 te vs vs1 ρ ω q x) :
    tLc2 wi (liftG K is gd) (liftT K W0 tt) (liftIo K W0 di1) (liftG K is1 gd1) (liftT K W0 tt1) (liftE K W0 te) vs vs1 σ H Q := by
  refine hi σ H J ω ρ _ x _ w s (fun xs P ω1 J1 H1 I z1 g1 w1 wd => ?_) cx z
  intro D hD
  obtain ⟨Inv, i0, iP, step, fin⟩ := z1
  obtain ⟨G, Y, wk, hG, hY⟩ := wd
  have hjD : J1 D = none := w1.jh.free hD
  have s1 := s.mono g1.jj
  let St : (List PyData → Wd → Prop) → Hp → Prop := fun inv H' => ∃ J' ω' acc us, Grow J1 H1 ω1 J' H' ω' ∧ Rw K J' H' ω' ∧ H' D = some (.lst us) ∧ J' D = none ∧ Fr ω' D ∧ RpAll K J' us acc ∧ inv acc ω'
  refine ⟨fun i m H' => m = xs.length - i ∧ i ≤ xs.length ∧ St (Inv i) H', ⟨xs.length, by simp, Nat.zero_le _, J1, ω1, [], [], Grow.junk hD _, w1.junk hD _, upd_same, hjD, w1.free hD, .nil, i0⟩, ?_⟩
  rintro i m H2 ⟨rfl, hi, J2, ω2, acc, us, g2, w2, hD2, jD2, oD2, ra, inv⟩
  have hg := hG J2 H2 ω2 g2.jj w2 (iP _ _ _ inv)
  by_cases hge : xs.length ≤ i
  · obtain rfl : i = xs.length := by omega
    refine .inl ⟨wk.stops H2 hg, (cq.step g1) _ _ _ _ _ (fin acc ω2 inv D oD2.1) (g2.own2 hD) (w2.own2 jD2 oD2 hD2 ra) (.ref D)⟩
  have hlt : i < xs.length := by omega
  refine .inr ⟨wk.goes i H2 hlt hg, St (Inv (i + 1)), fun H' st => ⟨xs.length - (i + 1), by omega, rfl, hlt, st⟩, fun v H2' y => ?_⟩
  have y := wk.yields i H2 v H2' hlt hg y
  have go : ∀ (d : PyData) (J3 H3 : Hp), xs[i]? = some d → Grow J2 H2 ω2 J3 H3 ω2 → Rw K J3 H3 ω2 → Rp K J3 v d → liftG K is gd v (wipe σ vs) H3 fun σ2 H2 => wipe σ2 vs = wipe σ vs ∧ liftT K W0 tt σ2 H2 fun b H3 =>
      if b = true then liftIo K W0 di1 σ2 H3 fun I1 H4 => ∃ W1 : Nat → Nat → Hp → Prop, (∃ m, W1 0 m H4) ∧ ∀ j k H, W1 j k H →
        (I1.stop j H ∧ St (Inv (i + 1)) H) ∨ (I1.go j H ∧ ∃ Nx1 : Hp → Prop, (∀ H', Nx1 H' → ∃ k', k' < k ∧ W1 (j + 1) k' H') ∧ ∀ x H', I1.yld j H x H' → liftG K is1 gd1 x (wipe σ2 vs1) H' fun σ3 H5 => wipe σ3 vs1 = wipe σ2 vs1 ∧ liftT K W0 tt1 σ3 H5 fun b H6 =>
          if b = true then liftE K W0 te σ3 H6 fun y H7 => ∃ acc, H7 D = some (.lst acc) ∧ acc.length < sizeLine ∧ Nx1 (upd H7 D (.lst (acc ++ [y]))) else Nx1 H6)
      else St (Inv (i + 1)) H3 := by
    intro d J3 H3 e3 g3 w3 r3
    have hD3 := g3.keep D _ hD2 oD2
    have nD2 : H2 D ≠ none := by rw [hD2]; simp
    have jD3 := g3.frj D nD2 oD2 jD2
    have nD3 : H3 D ≠ none := by rw [hD3]; simp
    refine ⟨J3, ω2, wipeD ρ vs, d, _, w3, (s1.mono (g2.jj.trans g3.jj)).wipe vs, r3, fun ρ' σ' z4 s4 ew => ⟨(ew vs his).trans (wipe_wipe σ vs), ?_⟩, step i d acc ω2 e3 inv⟩
    refine ⟨J3, ω2, ρ', _, X0, w3, s4, fun b ω5 J5 H5 z5 g5 w5 => ?_, (fun _ _ _ _ _ _ z => False.elim z), z4⟩
    have hD5 := g5.keep D _ hD3 oD2
    have jD5 := g5.frj D nD3 oD2 jD3
    have oD5 := g5.frw D nD3 oD2
    have nD5 : H5 D ≠ none := by rw [hD5]; simp
    cases b with
    | false => exact ⟨J5, ω5, acc, us, (g2.trans g3).trans g5, w5, hD5, jD5, oD5, rpAll_mono (g3.jj.trans g5.jj) _ _ ra, z5⟩
    | true =>
    refine iteT ⟨J5, ω5, ρ', _, X0, w5, s4.mono g5.jj, fun xs1 P1 ω6 J6 H6 I1 z6 g6 w6 wd1 => ?_, (fun _ _ _ _ _ _ z => False.elim z), z5⟩
    obtain ⟨Inv1, i1, iP1, step1, fin1⟩ := z6
    obtain ⟨G1, Y1, wk1, hG1, hY1⟩ := wd1
    have hD6 := g6.keep D _ hD5 oD5
    have jD6 := g6.frj D nD5 oD5 jD5
    have oD6 := g6.frw D nD5 oD5
    have s6 := (s4.mono g5.jj).mono g6.jj
    let St1 : (List PyData → Wd → Prop) → Hp → Prop := fun inv H' => ∃ J' ω' acc us, Same J6 J' ∧ Grow J1 H1 ω1 J' H' ω' ∧ Rw K J' H' ω' ∧ H' D = some (.lst us) ∧ J' D = none ∧ Fr ω' D ∧ RpAll K J' us acc ∧ inv acc ω'
    have ga := ((g2.trans g3).trans g5).trans g6
    refine ⟨fun j m H' => m = xs1.length - j ∧ j ≤ xs1.length ∧ St1 (Inv1 j) H', ⟨xs1.length, by simp, Nat.zero_le _, J6, ω6, acc, us, Same.refl _, ga, w6, hD6, jD6, oD6, rpAll_mono ((g3.jj.trans g5.jj).trans g6.jj) _ _ ra, i1⟩, ?_⟩
    rintro j m H7 ⟨rfl, hj, J7, ω7, acc7, us7, h7, g7, w7, hD7, jD7, oD7, ra7, inv7⟩
    have hg1 := hG1 J7 H7 ω7 h7 w7 (iP1 _ _ _ inv7)
    by_cases hge1 : xs1.length ≤ j
    · obtain rfl : j = xs1.length := by omega
      exact .inl ⟨wk1.stops H7 hg1, J7, ω7, acc7, us7, g7, w7, hD7, jD7, oD7, ra7, fin1 _ _ inv7⟩
    have hl1 : j < xs1.length := by omega
    refine .inr ⟨wk1.goes j H7 hl1 hg1, St1 (Inv1 (j + 1)), fun H' st => ⟨xs1.length - (j + 1), by omega, rfl, hl1, st⟩, fun v1 H7' y1 => ?_⟩
    have y1 := wk1.yields j H7 v1 H7' hl1 hg1 y1
    have go1 : ∀ (d : PyData) (J8 H8 : Hp), xs1[j]? = some d → Grow J7 H7 ω7 J8 H8 ω7 → Rw K J8 H8 ω7 → Rp K J8 v1 d → liftG K is1 gd1 v1 (wipe σ' vs1) H8 fun σ3 H5 => wipe σ3 vs1 = wipe σ' vs1 ∧ liftT K W0 tt1 σ3 H5 fun b H6 =>
        if b = true then liftE K W0 te σ3 H6 fun y H7 => ∃ acc, H7 D = some (.lst acc) ∧ acc.length < sizeLine ∧ St1 (Inv1 (j + 1)) (upd H7 D (.lst (acc ++ [y]))) else St1 (Inv1 (j + 1)) H6 := by
      intro d J8 H8 e8 g8 w8 r8
      have nD7 : H7 D ≠ none := by rw [hD7]; simp
      have hD8 := g8.keep D _ hD7 oD7
      have jD8 := g8.frj D nD7 oD7 jD7
      have nD8 : H8 D ≠ none := by rw [hD8]; simp
      refine ⟨J8, ω7, wipeD ρ' vs1, d, _, w8, ((s6.mono h7).mono g8.jj).wipe vs1, r8, fun ρ'' σ'' z9 s9 ew => ⟨(ew vs1 his1).trans (wipe_wipe σ' vs1), ?_⟩, step1 j d acc7 ω7 e8 inv7⟩
      refine ⟨J8, ω7, ρ'', _, X0, w8, s9, fun b ω9 J9 H9 z10 g9 w9 => ?_, (fun _ _ _ _ _ _ z => False.elim z), z9⟩
      have hD9 := g9.keep D _ hD8 oD7
      have jD9 := g9.frj D nD8 oD7 jD8
      have oD9 := g9.frw D nD8 oD7
      have nD9 : H9 D ≠ none := by rw [hD9]; simp
      cases b with
      | false => exact ⟨J9, ω9, acc7, us7, h7.trans (g8.jj.trans g9.jj), (g7.trans g8).trans g9, w9, hD9, jD9, oD9, rpAll_mono (g8.jj.trans g9.jj) _ _ ra7, z10⟩
      | true =>
      refine iteT ⟨J9, ω9, ρ'', _, X0, w9, s9.mono g9.jj, fun r ω10 y J10 H10 z10 g10 w10 r10 => ?_, (fun _ _ _ _ _ _ z => False.elim z), z10⟩
      obtain ⟨hlen, z10⟩ := z10
      have hD10 := g10.keep D _ hD9 oD9
      have jD10 := g10.frj D nD9 oD9 jD9
      have oD10 := g10.frw D nD9 oD9
      have sm := (g8.jj.trans g9.jj).trans g10.jj
      refine ⟨us7, hD10, by rw [ra7.length]; exact hlen, J10, ω10, acc7 ++ [r], us7 ++ [y], h7.trans sm, (((g7.trans g8).trans g9).trans g10).loc hD _, w10.loc jD10 oD10 _, upd_same, jD10, oD10, RpAll.append (rpAll_mono sm _ _ ra7) (.one r10), z10⟩
    rcases hY1 j H7 v1 H7' J7 ω7 hl1 h7 w7 (iP1 _ _ _ inv7) y1 with ⟨rfl, d, e1, e2⟩ | ⟨T, us2, ds, rfl, hT, rfl, e1, e2⟩
    · exact go1 d J7 _ e1 Grow.refl w7 e2
    · exact go1 (.tuple ds) _ _ e2 (Grow.frz w7 hT _) (w7.frz hT _) (.tup (SqT.of upd_same) (rpAll_mono (same_new (w7.jh.free hT) _) _ _ e1))
  rcases hY i H2 v H2' J2 ω2 hlt g2.jj w2 (iP _ _ _ inv) y with ⟨rfl, d, e1, e2⟩ | ⟨T, us2, ds, rfl, hT, rfl, e1, e2⟩
  · exact go d J2 _ e1 Grow.refl w2 e2
  · exact go (.tuple ds) _ _ e2 (Grow.frz w2 hT _) (w2.frz hT _) (.tup (SqT.of upd_same) (rpAll_mono (same_new (w2.jh.free hT) _) _ _ e1))
theorem de_lc2C (hc : X.calm = true) (hN : X.N.Nodup) (hi : DIo W X K tg iter di) (ok : BlkOk X.N X.env.scope scope own) (hv : ∀ i ∈ vs1, i ∈ own.map (·.2))
    (hg : ∀ (s : Shared) (H : Hp) (C : Addr) (cl : List (Str × Addr)) (fp : List Addr), DG (X.blk s H scope (compEnvC scope cl C X.env) fp) K tg is gd)
    (ht : ∀ (s : Shared) (H : Hp) (C : Addr) (cl : List (Str × Addr)) (fp : List Addr), DTs W0 (X.blk s H scope (compEnvC scope cl C X.env) fp) K ifs tt)
    (hi1 : ∀ (s : Shared) (H : Hp) (C : Addr) (cl : List (Str × Addr)) (fp : List Addr), DIo W0 (X.blk s H scope (compEnvC scope cl C X.env) fp) K tg1 iter1 di1)
    (hg1 : ∀ (s : Shared) (H : Hp) (C : Addr) (cl : List (Str × Addr)) (fp : List Addr), DG (X.blk s H scope (compEnvC scope cl C X.env) fp) K tg1 is1 gd1)
    (ht1 : ∀ (s : Shared) (H : Hp) (C : Addr) (cl : List (Str × Addr)) (fp : List Addr), DTs W0 (X.blk s H scope (compEnvC scope cl C X.env) fp) K ifs1 tt1)
    (he : ∀ (s : Shared) (H : Hp) (C : Addr) (cl : List (Str × Addr)) (fp : List Addr), DE W0 (X.blk s H scope (compEnvC scope cl C X.env) fp) K elt te)
    (his : ∀ i ∈ is, i ∈ own.map (·.2) := by decide) (his1 : ∀ i ∈ is1, i ∈ vs1 := by decide) (hs : ∀ x, foldedSetIterable iter X.env x = pure x := by intro _; rfl) (hs1 : ∀ env x, foldedSetIterable iter1 env x = pure x := by intro _ _; rfl) :
    DE W X K (.ListComp elt [⟨tg, iter, ifs, 0⟩, ⟨tg1, iter1, ifs1, 0⟩] scope pos) (dLc2C di gd tt di1 gd1 tt1 te (own.map (·.2)) vs1) := by
  obtain ⟨wi, p, k⟩ := hi
  exact ⟨_, pe_lc2 hc hN p ok hv hg (fun s H C cl fp => (ht s H C cl fp).ps) (fun s H C cl fp => (hi1 s H C cl fp).pi) hg1 (fun s H C cl fp => (ht1 s H C cl fp).ps) (fun s H C cl fp => (he s H C cl fp).pe) hs hs1, fun σ H J ω ρ q x Q w s cq cx z => lc2C_run k his his1 w s cq cx z⟩
theorem ds_setLc2C {i : Nat} {y : Str} {py spos : Pos} (hc : X.calm = true) (hN : X.N.Nodup) (hy : X.N[i]? = some y) (hyl : X.env.scope.names.lookup y = some .local)
    (hsw : swapsWith (.ListComp elt [⟨tg, iter, ifs, 0⟩, ⟨tg1, iter1, ifs1, 0⟩] scope pos) (some (.Name y py)) spos.line X.env = pure true) (hi : DIo W X K tg iter di) (ok : BlkOk X.N X.env.scope scope own) (hv : ∀ i ∈ vs1, i ∈ own.map (·.2))
    (hg : ∀ (s : Shared) (H : Hp) (C : Addr) (cl : List (Str × Addr)) (fp : List Addr), DG (X.blk s H scope (compEnvC scope cl C X.env) fp) K tg is gd)
    (ht : ∀ (s : Shared) (H : Hp) (C : Addr) (cl : List (Str × Addr)) (fp : List Addr), DTs W0 (X.blk s H scope (compEnvC scope cl C X.env) fp) K ifs tt)
    (hi1 : ∀ (s : Shared) (H : Hp) (C : Addr) (cl : List (Str × Addr)) (fp : List Addr), DIo W0 (X.blk s H scope (compEnvC scope cl C X.env) fp) K tg1 iter1 di1)
    (hg1 : ∀ (s : Shared) (H : Hp) (C : Addr) (cl : List (Str × Addr)) (fp : List Addr), DG (X.blk s H scope (compEnvC scope cl C X.env) fp) K tg1 is1 gd1)
    (ht1 : ∀ (s : Shared) (H : Hp) (C : Addr) (cl : List (Str × Addr)) (fp : List Addr), DTs W0 (X.blk s H scope (compEnvC scope cl C X.env) fp) K ifs1 tt1)
    (he : ∀ (s : Shared) (H : Hp) (C : Addr) (cl : List (Str × Addr)) (fp : List Addr), DE W0 (X.blk s H scope (compEnvC scope cl C X.env) fp) K elt te)
    (his : ∀ i ∈ is, i ∈ own.map (·.2) := by decide) (his1 : ∀ i ∈ is1, i ∈ vs1 := by decide) (hs : ∀ x, foldedSetIterable iter X.env x = pure x := by intro _; rfl) (hs1 : ∀ env x, foldedSetIterable iter1 env x = pure x := by intro _ _; rfl) :
    DSt W X K (.Assign [.Name y py] (.ListComp elt [⟨tg, iter, ifs, 0⟩, ⟨tg1, iter1, ifs1, 0⟩] scope pos) spos) (dSet i (dLc2C di gd tt di1 gd1 tt1 te (own.map (·.2)) vs1)) := by
  obtain ⟨wi, p, k⟩ := hi
  refine ⟨_, ps_setLc2 hc hN hy hyl hsw p ok hv hg (fun s H C cl fp => (ht s H C cl fp).ps) (fun s H C cl fp => (hi1 s H C cl fp).pi) hg1 (fun s H C cl fp => (ht1 s H C cl fp).ps) (fun s H C cl fp => (he s H C cl fp).pe) hs hs1, fun D DD σ H J ω ρ w s cs z => lc2C_run (q := fun r ω1 => DD.nx (ρ.set i (some r)) ω1) k his his1 w s (fun d ω1 v J1 H1 z1 g1 w1 rp => ?_) (cs.x s) z⟩
  exact cs.nx _ _ _ _ _ z1 g1 w1 ((s.mono g1.jj).set i rp)
end
end Tx

namespace Tx
open PySem PySem.Spec PyProof.Rows L2
/-! ## min of a list, max(.., default=), text * number told exactly -/
def minD : RD1 := fun xs ω Q => ∃ (x : PyData) (ns : List Int), xs = [x] ∧ rsv ω x = .list (ns.map PyData.int) ∧ 0 < ns.length ∧ ∀ m, m ∈ ns → (∀ y ∈ ns, m ≤ y) → Q (.int m)
def dMaxDf (z0 : Int) (te : DTE) (ρ : DS) (ω : Wd) (q : DQ) (x : DXK) : Prop := te ρ ω (fun r ω1 => ∃ ns : List Int, rsv ω1 r = .list (ns.map PyData.int) ∧ q (.int (maxOr z0 ns)) ω1) x
def mulTD : RD2 := fun x y _ Q => match x, y with
  | .str z, .int n => 0 ≤ n ∧ n ≤ 1000 ∧ z.length ≤ 1000 ∧ Q (.str (Txt.mul z n))
  | _, _ => False
theorem mulOk_of {z : Str} {n : Int} (n0 : 1 ≤ n) (n1 : n ≤ 1000) (z1 : z.length ≤ 1000) : MulOk z n := by
  have le : z.length * n.toNat ≤ 1000 * 1000 := Nat.mul_le_mul z1 (by omega)
  refine ⟨?_, fun _ _ => ?_, fun _ _ => ?_⟩
  · simp only [Bool.or_eq_false_iff, decide_eq_false_iff_not]
    omega
  · have h1 : (9223372036854775 : Int) ≤ (2 ^ 63 - 1) / n := by
      rw [Int.le_ediv_iff_mul_le (by omega)]
      omega
    omega
  · unfold PySem.Builtin.Str.tooLong
    simp only [decide_eq_false_iff_not]
    rw [sizeLine_eq]
    omega
section
variable {X : Cx} {K : PySem.W.Frag}
theorem dc_min (hK : X.K = K) (hc : X.calm = true) : CallR X (.builtin "min") (liftA K minD) := by
  subst hK
  intro pins s σ H xs us Q I rv ⟨J, ω, ds, q, w, rs, c, x, ns, e1, e2, e3, z⟩
  subst e1
  cases rs with
  | cons r1 r2 =>
  cases r2
  obtain ⟨a, vs, rfl, ha, ra⟩ := rp_list w r1 e2
  rw [rpAll_intB ra] at ha
  exact cr_min hc pins s σ H _ us Q I rv ⟨a, ns, rfl, SqL.of ha, e3, fun m h1 h2 => c.now w (z m h1 h2) (.int _)⟩
theorem do_mulT (hK : X.K = K) : OpR X (binaryOp .Mult) (lift2 K mulTD) := by
  subst hK
  intro pins s σ H x y v u Q I rx ry ⟨J, ω, dx, dy, q, w, hx, hy, c, z⟩
  unfold mulTD at z
  split at z
  · rename_i t n
    cases hx
    cases hy
    obtain ⟨tk, rfl⟩ := rx
    obtain ⟨tk', rfl⟩ := ry
    obtain ⟨n0, n1, z1, z⟩ := z
    have hok : MulOk t n := by
      by_cases h : n < 1
      · refine ⟨?_, fun h2 _ => absurd h h2, fun h2 _ => absurd h h2⟩
        simp only [Bool.or_eq_false_iff, decide_eq_false_iff_not]
        omega
      · exact mulOk_of (by omega) n1 z1
    refine SB.mul hok fun t2 k => ?_
    exact ⟨.str (Txt.mul t n), H, I.tok k, ⟨t2, rfl⟩, c.now w z (.str _)⟩
  · exact False.elim z
end
section
variable {W : WX} {X : Cx} {K : PySem.W.Frag} {e : Expr} {te : DTE} {p pos kp : Pos} {i : Int}
theorem de_maxDf {kws : List Keyword} (hK : X.K = K) (hc : X.calm = true) (hu : X.A.units + 64 < cLine) (hg : Gl X "max") (hm : X.mg "max" = none) (he : DE W X K e te) {z0 : Int} (hk : PK X kws (tCons (tC (.int z0)) tNil))
    (na : starEach [e] X.env = (false, eval e X.env) :: starEach [] X.env := by rfl)
    (hb : backTo pos (starEach [e] X.env) = (false, eval e X.env) :: backTo pos (starEach [] X.env) := by rfl) (hpl : (backTo pos (starEach [e] X.env)).any (·.1) = false := by rfl)
    (hall : (backToKw pos (keywordEach kws X.env)).all (·.1.isSome) = true := by rfl) (hnone : (backToKw pos (keywordEach kws X.env)).any (·.1.isNone) = false := by rfl) (hks : (backToKw pos (keywordEach kws X.env)).filterMap (·.1) = [Str.ofString "default"] := by rfl) :
    DE W X K (.Call (.Name "max" p) [e] kws pos) (dMaxDf z0 te) := by
  subst hK
  obtain ⟨r, pe, k⟩ := he
  refine ⟨_, pe_callBK (cr_maxDf hc hu) hg hm (by decide +kernel) (pa_cons pe pa_nil na) hk (by decide) (by decide) hb hpl hall hnone hks, fun σ H J ω ρ q x Q w s cq cx z => k σ H J ω ρ _ x _ w s (fun r ω1 v J1 H1 z1 g1 w1 rp => ?_) cx z⟩
  obtain ⟨ns, e1, z1⟩ := z1
  obtain ⟨a, vs, rfl, ha, ra⟩ := rp_list w1 rp e1
  obtain rfl := rpAll_intB ra
  exact ⟨a, ns, z0, rfl, rfl, SqL.of ha, (cq.step g1).now w1 z1 (.int _)⟩
end
theorem mulA (n : Nat) : Txt.mul "a" (n : Int) = aS n := by
  have fold : ∀ (k : Nat) (acc : Array Nat), ((List.replicate k (#[97] : Array Nat)).foldl (· ++ ·) acc).toList = acc.toList ++ List.replicate k 97 := by
    intro k
    induction k with
    | zero => intro acc; simp
    | succ k ih =>
      intro acc
      rw [List.replicate_succ, List.foldl_cons, ih, List.replicate_succ]
      simp
  unfold Txt.mul
  by_cases h : (n : Int) < 1
  · rw [if_pos h]
    have : n = 0 := by omega
    subst this
    rfl
  · rw [if_neg h]
    split
    · rename_i h2
      have e0 : ((Str.ofString "a").length == 0) = false := by decide
      have e1 : n = 1 := by
        rcases Bool.or_eq_true_iff.mp h2 with z | z
        · have := beq_iff_eq.mp z; omega
        · exact absurd z (by rw [show (("a" : Str).length == 0) = false from e0]; simp)
      subst e1
      rfl
    · have f := fold n #[]
      unfold aS
      have e : (List.replicate (n : Int).toNat (("a" : Str).cps)).foldl (· ++ ·) #[] = Array.replicate n 97 := by
        apply Array.toList_inj.mp
        rw [Int.toNat_natCast]
        show ((List.replicate n (#[97] : Array Nat)).foldl (· ++ ·) #[]).toList = _
        rw [f]
        simp
      rw [e]
/-! ### enumerate of a tuple -/
theorem meets_enumT (l : Addr) (items : Array Value) (n : Nat) (dct : Option Addr) (sl : Array (Option Value)) :
    Meets (Builtin.«enumerate.__new__» ⟨[.type "enumerate", .ref l], []⟩) (fun _ R s => s.heap.get? l = some { cls := .type "tuple", dict := dct, data := .seq items n, slots := sl } ∧
      R (.ok (.ret (.ref (s.heap.push { cls := .type "tuple_iterator", data := .fields #[.ref l, .int 0 0] }).objs.size)))
        { s with heap := (s.heap.push { cls := .type "tuple_iterator", data := .fields #[.ref l, .int 0 0] }).push { cls := .type "enumerate", data := .fields #[.none, .bool false, .ref s.heap.objs.size, rawInt 0, .none, .none] } }) :=
  .of_wp fun prog w A R s h => by
    obtain ⟨hp, g, d, tk, os⟩ := s; obtain ⟨hl, h⟩ := h
    have hsub := sub_enumerate
    have hL : Heap.IsTuple (Shared.heap ⟨hp, g, d, tk, os⟩) l items := ⟨_, hl, rfl, n, rfl⟩
    wp_walk using AutoSeq1.wpAny_loadPart' hl
    refine wpAny_stack_any fun st => wpAny_pure ?_
    split
    · rename_i c _ _ _ _ _
      cases (c == Value.type "enumerate")
      · wp_walk using AutoSeq1.wpAny_loadPart' hl, wpAny_pyIter_tuple hL
        exact ⟨_, rfl, h⟩
      · wp_walk using AutoSeq1.wpAny_loadPart' hl, wpAny_pyIter_tuple hL
        exact ⟨_, rfl, h⟩
    · wp_walk using AutoSeq1.wpAny_loadPart' hl, wpAny_pyIter_tuple hL
      exact ⟨_, rfl, h⟩
section
variable {prog : Program} {w : World} {A : Around} {E : Value → Shared → Prop} {s : Shared}
theorem call_enumT {l : Addr} {items : Array Value} {Q : Value → Shared → Prop} (hL : s.heap.IsTuple l items)
    (h : ∀ h', IsEnum h' (s.heap.objs.size + 1) s.heap.objs.size 0 .none → h'.IsTupleIter s.heap.objs.size l 0 → (∀ b o, s.heap.get? b = some o → h'.get? b = some o) → Q (.ref (s.heap.objs.size + 1)) { s with heap := h' }) :
    wpAny (model prog w) A (call (.type "enumerate") [.ref l]) Q E s := by
  obtain ⟨⟨c, dct, dt, sl⟩, hl, hc, n, hd⟩ := hL
  replace hc : c = .type "tuple" := hc
  replace hd : dt = .seq items n := hd
  subst hc hd
  refine callType_new F.called_enumerate (by decide) (F.typeCall_enumerate_1 _) (F.newCall_enumerate_1 _) (fun obj => F.args_object_init_2 obj _) F.entry_enumerate_new
    (meets_enumT l items n dct sl) ⟨hl, ?_⟩
  have hz : (s.heap.push { cls := .type "tuple_iterator", data := .fields #[.ref l, .int 0 0] }).objs.size = s.heap.objs.size + 1 := Heap.size_push ..
  show _ ∧ _
  rw [hz]
  have he : IsEnum ((s.heap.push { cls := .type "tuple_iterator", data := .fields #[.ref l, .int 0 0] }).push
      { cls := .type "enumerate", data := .fields #[.none, .bool false, .ref s.heap.objs.size, rawInt 0, .none, .none] }) (s.heap.objs.size + 1) s.heap.objs.size 0 .none := by
    have := Heap.get?_push_size (s.heap.push { cls := .type "tuple_iterator", data := .fields #[.ref l, .int 0 0] })
      (o := { cls := .type "enumerate", data := .fields #[.none, .bool false, .ref s.heap.objs.size, rawInt 0, .none, .none] }) rfl
    rw [hz] at this; exact this
  refine ⟨⟨_, he, rfl⟩, h _ he ⟨_, Heap.get?_push_of_some _ (Heap.get?_push_size _ rfl), rfl, rfl⟩ fun b o x => Heap.get?_push_of_some _ (Heap.get?_push_of_some _ x)⟩
end
def Ixt (K : PySem.W.Frag) (a : Addr) : It where
  go := fun i H => ∃ vs, SqT K H a vs ∧ i < vs.length
  yld := fun i H r H' => ∃ T v, r = .ref T ∧ H T = none ∧ H' = upd H T (.tup [.int ((i : Nat) : Int), v]) ∧ ∀ vs, SqT K H a vs → vs[i]? = some v
  stop := fun i H => ∃ vs, SqT K H a vs ∧ i = vs.length
theorem turn_etup {P : Program} {w : World} {K : PySem.W.Frag} {elts : List Expr} {kk : Nat} {tpos : Pos} {a e it : Addr} (ne : e ≠ it) (na : a ≠ it) (nea : e ≠ a) :
    Turn P w K (.Tuple elts kk tpos) (Ixt K a) [e, it] e (fun i h => (∃ old, IsEnum h e it ((i : Nat) : Int) old) ∧ h.IsTupleIter it a i) := by
  have two : ∀ c, c ∈ [e, it] → c = e ∨ c = it := fun c h => by simpa using h
  refine ⟨by simp, fun i h st c hc => ?_, fun i h h' st k => ?_, ?_, ?_, fun A i s Q E st h => by obtain ⟨⟨_, he⟩, _⟩ := st; exact wpAny_pyIter_enum he h⟩
  · obtain ⟨⟨old, g1⟩, ⟨o2, g2, _, d2⟩⟩ := st
    rcases two c hc with rfl | rfl
    · exact ⟨_, g1, fun v q => nomatch q⟩
    · exact ⟨o2, g2, fun v q => by rw [d2] at q; cases q⟩
  · obtain ⟨⟨old, g1⟩, g2⟩ := st
    exact ⟨⟨old, k e (by simp) _ g1⟩, g2.at fun o e => k it (by simp) o e⟩
  · rintro X rfl rfl rfl hc i pins s σ H E I hf ⟨⟨old, g1⟩, g2⟩ ⟨vs, q1, hi⟩
    obtain ⟨l1, r1, p1, _⟩ := I.tuple q1
    have hh : X.A.in1.handled = none := I.ok.hd hc
    have hel : e < s.heap.objs.size := Heap.lt_size g1
    have hil : it < s.heap.objs.size := by obtain ⟨_, q, _⟩ := g2; exact Heap.lt_size q
    obtain ⟨v, hv⟩ : ∃ v, vs[i]? = some v := ⟨_, List.getElem?_eq_getElem hi⟩
    obtain ⟨w1, e1, rv⟩ := r1.get hv
    have m1 : i < l1.toArray.size := by simpa using (List.getElem?_eq_some_iff.mp e1).1
    refine wpAny_pyNext_enum_itemD (Draws.tuple hh it a na l1.toArray) g1 ⟨g2, p1⟩ m1 ne (by simp [ne, nea]) fun x h' tk px ho st' hT hsz hk => ?_
    obtain rfl : x = w1 := by have y1' : l1[i]? = some x := by simpa using px
                              rw [e1] at y1'; exact (Option.some.inj y1').symm
    refine ⟨_, rfl, wpAny_letOwnedTupleGo_enum (s := { s with heap := h', toks := tk + 1 }) ho fun h'' he' sb => ?_⟩
    have hT2 : h''.get? s.heap.objs.size = some { cls := .type "tuple", data := .seq #[.int i tk, x] } := (sb.2 _ (Nat.ne_of_gt hel)).trans hT
    have new : ObjOk X.prog X.w (upd H s.heap.objs.size (.tup [.int ((i : Nat) : Int), v])) h'' s.heap.objs.size (.tup [.int ((i : Nat) : Int), v]) :=
      ⟨by show 2 ≤ sizeLine; decide, [.int i tk, x], .cons ⟨_, rfl⟩ (.cons rv .nil), ⟨_, hT2, rfl, _, rfl⟩⟩
    have I1 : Inv X pins σ (upd H s.heap.objs.size (.tup [.int ((i : Nat) : Int), v])) { s with heap := h'', toks := tk + 1 } :=
      I.turnedNew (t' := tk + 1) (ch := [e, it]) (fun b ob hb q => (sb.2 b fun y => hb (by simp [y])).trans (hk b ob (fun y => hb (by simp [y])) (fun y => hb (by simp [y])) q)) hf (Nat.le_refl _) new
    refine ⟨.ref s.heap.objs.size, _, I1, rfl, ⟨_, v, rfl, I.hok.fresh (Nat.le_refl _), rfl, fun l hl => by rw [I.tuple_inj hl q1]; exact hv⟩, ⟨⟨x, ?_⟩, ?_⟩, fun b hb => ?_⟩
    · have e1 : ((i + 1 : Nat) : Int) = (i : Int) + 1 := by omega
      rw [e1]; exact he'
    · exact st'.1.at fun o q => (sb.2 it (Ne.symm ne)).trans q
    · have hb' : b < s.heap.objs.size := by
        rcases two b hb with rfl | rfl
        · exact hel
        · exact hil
      rw [upd_ne (Nat.ne_of_lt hb')]
      exact (hf b hb).1
  · rintro X rfl rfl rfl hc i pins s σ H E I hf ⟨⟨old, g1⟩, g2⟩ ⟨vs, q1, hi⟩
    obtain ⟨l1, r1, p1, _⟩ := I.tuple q1
    have hh : X.A.in1.handled = none := I.ok.hd hc
    have k1 := r1.length
    obtain rfl : i = l1.toArray.size := by simp; omega
    obtain ⟨f0, f1, f2, f3, f4, f5⟩ := hf it (by simp)
    exact wpAny_pyNext_enum_endD (Draws.tuple hh it a na l1.toArray) g1 ⟨g2, p1⟩ fun h' eb => ⟨rfl, I.turned (t' := s.toks) (fun b o hb q => eb b o hb q) f0 f1 f3 f4 f5⟩
def iEnumT (K : PySem.W.Frag) (ta : TA) : TI := fun σ H R => ta σ H fun vs H1 => ∃ a xs, vs = [.ref a] ∧ SqT K H1 a xs ∧ R (Ixt K a) H1
theorem pi_enumT {X : Cx} {e : Expr} {ta : TA} {p pos tpos : Pos} {elts : List Expr} {kk : Nat} (hg : Gl X "enumerate") (hm : X.mg "enumerate" = none) (ha : PA X [e] ta) (hs : starEach [e] X.env = [(false, eval e X.env)] := by rfl) :
    PI X (.Tuple elts kk tpos) (.Call (.Name "enumerate" p) [e] [] pos) (iEnumT X.K ta) := by
  refine ⟨fun pins s σ H R I h => Call_ (ld_blt I hg hm boot_enumerate (PyProof.Rows.callWith_type1 (thn (ha.run pos pins s σ H _ I h) fun us s1 ⟨vs, H1, I1, rl, q1⟩ => ?_) hs rfl))⟩
  have fresh : ∀ b, b ∈ [s1.heap.objs.size + 1, s1.heap.objs.size] → FpOk X pins H1 b := fun b hb => by
    have e2 : b = s1.heap.objs.size + 1 ∨ b = s1.heap.objs.size := by simpa using hb
    have hle : s1.heap.objs.size ≤ b := by
      rcases e2 with rfl | rfl
      · exact Nat.le_add_right _ _
      · exact Nat.le_refl _
    exact I1.fpOk hle (I1.hok.fresh hle)
  obtain ⟨a, xs, ex, hq, q⟩ := q1
  subst ex
  cases rl with
  | cons r rr =>
  cases rr
  cases r
  obtain ⟨its, rv, p', hz⟩ := I1.tuple hq
  have hal : a < s1.heap.objs.size := by obtain ⟨_, g, _⟩ := p'; exact Heap.lt_size g
  refine call_enumT p' fun h' he hit hk => wpAny_pyIter_enum he ?_
  exact ⟨_, _, _, _, H1, rfl, I1.kept (t' := s1.toks) hk, turn_etup (a := a) (e := s1.heap.objs.size + 1) (it := s1.heap.objs.size) (Nat.succ_ne_self _) (Nat.ne_of_lt hal) (Nat.ne_of_gt (Nat.lt_succ_of_lt hal)), ⟨⟨.none, he⟩, hit⟩, fresh, q⟩
def diEnumT (ta : DTA) (ρ : DS) (ω : Wd) (k : List PyData → Wd → Prop) (x : DXK) : Prop := ta ρ ω (fun rs ω1 => match rs with
  | [.tuple xs] => k (enumD xs) ω1
  | _ => False) x
theorem walk_etup {K : PySem.W.Frag} {a : Addr} {vs : List V} : Walk (Ixt K a) vs.length (fun H => SqT K H a vs) (fun i H r H' => ∃ T v, r = .ref T ∧ H T = none ∧ H' = upd H T (.tup [.int ((i : Nat) : Int), v]) ∧ vs[i]? = some v) := by
  refine ⟨fun i _ hi q => ⟨vs, q, hi⟩, fun _ q => ⟨vs, q, rfl⟩, fun i H v H' _ q y => ?_⟩
  obtain ⟨T, x, h1, h2, h3, h4⟩ := y
  exact ⟨T, x, h1, h2, h3, h4 vs q⟩
theorem walkD_etup {K : PySem.W.Frag} {J : Hp} {a : Addr} {vs : List V} {xs : List PyData} (h1 : SqT K J a vs) (r1 : RpAll K J vs xs) : WalkD K J (Ixt K a) (enumD xs) := by
  refine ⟨fun H => SqT K H a vs, _, by unfold enumD; rw [List.length_mapIdx, ← r1.length]; exact walk_etup, fun J' H' s1 s2 => Same.sqT s2 (Same.sqT s1 h1), fun i H v H' hi y => .inr ?_⟩
  obtain ⟨T, x, e1, e2, e3, e4⟩ := y
  obtain ⟨d, f1, f2⟩ := r1.get e4
  exact ⟨T, _, [.int ((i : Nat) : Int), d], e1, e2, e3, .cons (.int _) (.cons f2 .nil), by unfold enumD; rw [List.getElem?_mapIdx, f1]; rfl⟩
theorem di_enumT {W : WX} {X : Cx} {K : PySem.W.Frag} {a : Expr} {tA : DTA} {p pos tpos : Pos} {elts : List Expr} {kk : Nat} (hK : X.K = K) (hg : Gl X "enumerate") (hm : X.mg "enumerate" = none) (ha : DAs W X K [a] tA) (hs : starEach [a] X.env = [(false, eval a X.env)] := by rfl) :
    DI W X K (.Tuple elts kk tpos) (.Call (.Name "enumerate" p) [a] [] pos) (diEnumT tA) := by
  subst hK
  obtain ⟨t, pp, k⟩ := ha
  refine ⟨_, pi_enumT hg hm pp hs, fun σ H J ω ρ kk x R w s c cx z => k σ H J ω ρ _ x _ w s (fun rs ω1 vs J1 H1 z1 g1 w1 rps => ?_) cx z⟩
  split at z1
  · cases rps with
    | cons r1 r2 =>
    cases r2
    cases r1 with
    | tup hs ha => exact ⟨_, _, rfl, Same.sqT w1.jh hs, c _ _ _ _ _ z1 g1 w1 (walkD_etup hs ha)⟩
  · exact False.elim z1
end Tx

namespace Tx
open PySem PySem.Spec PyProof.Rows L2
/-! ## least rows: the walk of the small defs -/
/-- 0 code, 1 found, 2 node, 3 count -/
abbrev sNums : Stmt := top 9
theorem scNums : FnScope ["code", "found", "node", "count"] ["code"] (defScope sNums) := ⟨rfl, rfl, rfl, by decide +kernel, rfl, by decide +kernel, by decide +kernel⟩
/-- 0 code, 1 found, 2 count -/
abbrev sFirsts : Stmt := top 15
theorem scFirsts : FnScope ["code", "found", "count"] ["code"] (defScope sFirsts) := ⟨rfl, rfl, rfl, by decide +kernel, rfl, by decide +kernel, by decide +kernel⟩
/-- 0 code, 1 before, 2 item, 3 filled, 4 at, 5 node -/
abbrev sLongerT : Stmt := top 14
theorem scLongerT : FnScope ["code", "before", "item", "filled", "at", "node"] ["code", "before", "item"] (defScope sLongerT) := ⟨rfl, rfl, rfl, by decide +kernel, rfl, by decide +kernel, by decide +kernel⟩
/-- 0 code, 1 one, 2 other -/
abbrev sLongerR : Stmt := top 16
theorem scLongerR : FnScope ["code", "one", "other"] ["code", "one", "other"] (defScope sLongerR) := ⟨rfl, rfl, rfl, by decide +kernel, rfl, by decide +kernel, by decide +kernel⟩
/-- 0 row, 1 found, 2 is_list, 3 each -/
abbrev sIsNew : Stmt := top 17
theorem scIsNew : FnScope ["row", "found", "is_list", "each"] ["row", "found"] (defScope sIsNew) := ⟨rfl, rfl, rfl, by decide +kernel, rfl, by decide +kernel, by decide +kernel⟩
def numsOf : Nd → List Int
  | .text lo hi => lo :: hi.toList
  | _ => []
def numsL : List Nd → List Int
  | [] => []
  | nd :: c => numsOf nd ++ numsL c
theorem numsL_app : ∀ (c e : List Nd), numsL (c ++ e) = numsL c ++ numsL e
  | [], e => rfl
  | nd :: c, e => by simp only [List.cons_append, numsL, numsL_app c e, List.append_assoc]
theorem numsL_mem {c : List Nd} {k : Int} : k ∈ numsL c ↔ ∃ nd ∈ c, k ∈ numsOf nd := by
  induction c with
  | nil => simp [numsL]
  | cons nd c ih => simp [numsL, ih]
theorem numsL_len : ∀ c : List Nd, (numsL c).length ≤ 2 * c.length
  | [] => by simp [numsL]
  | nd :: c => by
    have := numsL_len c
    simp only [numsL, List.length_append, List.length_cons]
    have : (numsOf nd).length ≤ 2 := by
      cases nd with
      | text lo hi => cases hi <;> simp [numsOf]
      | _ => simp [numsOf]
    omega
def rowD (c : List Nd) (v : PyData) : PyData := .tuple [.int ((szD v : Nat) : Int), v, bsD (vt c v)]
def dsNums : DSp := fun ts ω q _ => ∃ c, ts = [codeD c] ∧ c.length ≤ 1000 ∧ (∀ nd ∈ c, mxOk 62 nd) ∧ ∀ ys : List Int, (∀ k : Int, k ∈ ys ↔ k ∈ numsL c) → q (.list (ys.map PyData.int)) ω
def dsFirsts : DSp := fun ts ω q _ => ∃ c, ts = [codeD c] ∧ CodeOk c ∧ c.length ≤ 1000 ∧ (∀ nd ∈ c, mxOk 62 nd) ∧ ∀ mx, mx ≤ 62 → (∀ nd ∈ c, mxOk mx nd) → q (.list ((firsts mx).map (rowD c))) ω
def dsLongerT : DSp := fun ts ω q _ => ∃ c b t, ts = [codeD c, bsD b, bsD t] ∧ CodeOk c ∧ b.length = c.length ∧ t.length = c.length ∧ q (bsD (longerB c b t)) ω
def dsLongerR : DSp := fun ts ω q _ => ∃ c v w, ts = [codeD c, rowD c v, rowD c w] ∧ CodeOk c ∧ isL v = true ∧ (its v).length ≤ 1000000 ∧ q (rowD c (appD v w)) ω
def dsIsNew : DSp := fun ts ω q _ => ∃ c v f found, ts = [rowD c v, refD f] ∧ ω f = some (.lst (found.map (rowD c))) ∧ isVal v = true ∧ (∀ e ∈ found, isVal e = true) ∧ found.length ≤ 1000000 ∧ q (.bool (isNew c found v)) ω
theorem foldl_maxI : ∀ (r : List Int) (n : Int), (r.foldl max n = n ∨ r.foldl max n ∈ r) ∧ n ≤ r.foldl max n ∧ ∀ k ∈ r, k ≤ r.foldl max n
  | [], n => ⟨.inl rfl, Int.le_refl _, fun k h => by cases h⟩
  | x :: r, n => by
    obtain ⟨h1, h2, h3⟩ := foldl_maxI r (max n x)
    simp only [List.foldl_cons, List.mem_cons]
    refine ⟨?_, by omega, fun k hk => ?_⟩
    · rcases h1 with h1 | h1
      · rw [h1]
        by_cases h : n ≤ x
        · right; left; omega
        · left; omega
      · exact .inr (.inr h1)
    · rcases hk with rfl | hk
      · omega
      · exact h3 k hk
theorem maxOr_spec (z : Int) (ns : List Int) : (ns = [] ∧ maxOr z ns = z) ∨ (maxOr z ns ∈ ns ∧ ∀ k ∈ ns, k ≤ maxOr z ns) := by
  cases ns with
  | nil => exact .inl ⟨rfl, rfl⟩
  | cons n r =>
    obtain ⟨h1, h2, h3⟩ := foldl_maxI r n
    right
    simp only [maxOr, List.mem_cons]
    exact ⟨h1, fun k hk => by
      rcases hk with rfl | hk
      · exact h2
      · exact h3 k hk⟩
def isTx : Nd → Bool
  | .text _ _ => true
  | _ => false
theorem is_text {i : Nat} {ρ : DS} {ω : Wd} {q : Bool → Wd → Prop} {x : DXK} {nd : Nd} (h : ρ[i]? = some (some (ndD nd))) (z : q (isTx nd) ω) : dTest (dOp eqD (dOp ixD (dVar i) (dC (.int 0))) (dC (.str "text"))) ρ ω q x := by
  unfold dTest dOp dVar dC
  simp only [h]
  cases nd <;> simp only [ndD, ixD, rsv] <;> refine ⟨_, rfl, ?_⟩ <;> simp only [eqD, w_any_text, w_never_text, w_nothing_text, w_text_text, w_lists_text, w_nested_text, w_not_text, w_or_text, w_and_text, w_less_text] <;> exact z
theorem rsv_val {ω : Wd} {v : PyData} (h : isVal v = true) : rsv ω v = v := by
  cases v with
  | dict _ => simp [isVal] at h
  | _ => rfl
def noDc : PyData → Prop
  | .dict _ => False
  | _ => True
theorem isi_val : ∀ {v : PyData}, isVal v = true → noDc v
  | .none, _ => trivial
  | .str _, _ => trivial
  | .list _, _ => trivial
  | .bool _, h => by simp [isVal] at h
  | .int _, h => by simp [isVal] at h
  | .tuple _, h => by simp [isVal] at h
  | .dict _, h => by simp [isVal] at h
theorem bool_shapedR (b : Bool) : SeqAt.shaped (.bool b) = true := by simp [SeqAt.shaped, PyData.canLay0, PyData.depth]
theorem eqv_boolR (a b : Bool) : PyData.eqv (.bool a) (.bool b) = decide (a = b) := by cases a <;> cases b <;> decide
theorem bools_lay : ∀ bs : List Bool, PyData.canLayAll0 (bs.map PyData.bool) = true ∧ PyData.depthAll (bs.map PyData.bool) = 0
  | [] => ⟨rfl, rfl⟩
  | b :: bs => by
    obtain ⟨h1, h2⟩ := bools_lay bs
    simp [PyData.canLayAll0, PyData.canLay0, PyData.depthAll, PyData.depth, h1, h2]
theorem bsD_shaped {bs : List Bool} : SeqAt.shaped (bsD bs) = true := by
  obtain ⟨h1, h2⟩ := bools_lay bs
  simp [SeqAt.shaped, bsD, PyData.canLay0, PyData.depth, h1, h2]
theorem eqvAll_bools : ∀ a b : List Bool, PyData.eqvAll (a.map PyData.bool) (b.map PyData.bool) = decide (a = b)
  | [], [] => by simp [PyData.eqvAll]
  | [], _ :: _ => by simp [PyData.eqvAll]
  | _ :: _, [] => by simp [PyData.eqvAll]
  | x :: a, y :: b => by
    simp only [List.map_cons, PyData.eqvAll, eqvAll_bools a b, eqv_boolR, List.cons.injEq, Bool.decide_and]
theorem eqv_bsD {a b : List Bool} : PyData.eqv (bsD a) (bsD b) = decide (a = b) := by
  unfold bsD
  simp only [PyData.eqv]
  exact eqvAll_bools a b
theorem enum_len {xs : List PyData} : (enumD xs).length = xs.length := by unfold enumD; rw [List.length_mapIdx]
theorem enum_get {xs : List PyData} {i : Nat} {y : PyData} (h : (enumD xs)[i]? = some y) : ∃ x, xs[i]? = some x ∧ y = .tuple [.int ((i : Nat) : Int), x] := by
  unfold enumD at h
  rw [List.getElem?_mapIdx] at h
  obtain ⟨x, h1, h2⟩ := Option.map_eq_some_iff.mp h
  exact ⟨x, h1, h2.symm⟩
theorem fillsL_len {b t : List Bool} : ∀ {c : List Nd} {i : Nat}, (fillsL b t i c).length = c.length
  | [], _ => rfl
  | nd :: c, i => by simp only [fillsL, List.length_cons, fillsL_len]
theorem fillsL_app {b t : List Bool} : ∀ (c e : List Nd) (i : Nat), fillsL b t i (c ++ e) = fillsL b t i c ++ fillsL b t (i + c.length) e
  | [], e, i => by simp [fillsL]
  | nd :: c, e, i => by simp only [List.cons_append, fillsL, fillsL_app c e, List.length_cons, Nat.add_assoc, Nat.add_comm 1]
section
variable {P : Program} {w : World} {K : PySem.W.Frag} {mg : Str → Option Value} {base : Heap} {C : Addr}
theorem dd_nums (h : Has K mg "numbers_of" sNums) (B : Bi mg) : Dfn P w K mg base CX0 1 "numbers_of" ["code"] (spD K dsNums) := by
  refine dfnD (k := 0) h B scNums (fun _ _ _ _ _ _ us hl => match us, hl with | [_], _ => rfl) (fun ts ω q xx h => ?_) (fun f cv A out s H E c => ⟨_, (dss_cons (ds_setLc2C (i := 1) (own := [("node", 2), ("count", 3)]) (gd := (dgName 2)) (gd1 := (dgName 3)) (is := [2]) (is1 := [3]) (vs1 := [3]) rfl scNums.nd rfl rfl (sw_true rfl rfl rfl (by decide +kernel)) (dio_d (di_data rfl (de_var (pv 0)))) (blkOk_by (own := [("node", 2), ("count", 3)]) (N := ["code", "found", "node", "count"]) (sc := defScope sNums) (by decide +kernel)) (by decide) (fun _ _ _ _ _ => (dg_name (pg_name (i := 2) scNums.nd rfl (Or.inl rfl)))) (fun _ _ _ _ _ => dts_one (dt_cmp (do_eq rfl c.r.units) (de_ix rfl (de_var (pv 2)) de_int (fun _ _ => rfl)) de_str (nomark _))) (fun _ _ _ _ _ => (dio_d (di_data rfl (de_sl rfl (de_var (pv 2)) (do_some de_int) do_none)))) (fun _ _ _ _ _ => (dg_name (pg_name (i := 3) scNums.nd rfl (Or.inl rfl)))) (fun _ _ _ _ _ => dts_one (dt_cmp (do_isnot rfl) (de_var (pv 3)) de_non (nomark _))) (fun _ _ _ _ _ => (de_var (pv 3))))
    (dss_one (ds_retS (de_sortSet rfl rfl (by rfl) c.b.sorted (by rfl) c.b.set (de_var (pv 1)))))), fun ts ω q xx z => ?_⟩)
  · obtain ⟨c, rfl, _⟩ := h
    rfl
  obtain ⟨c, rfl, hl, hm, z⟩ := z
  have sl : 100000 ≤ sizeLine := by decide
  refine ⟨c.map ndD, rfl, fun i acc ω2 => acc = (numsL (c.take i)).map PyData.int ∧ ω2 = ω, ⟨rfl, rfl⟩, fun _ _ _ _ => trivial, ?_, ?_⟩
  · rintro i y acc ω2 hy ⟨rfl, rfl⟩
    rw [List.getElem?_map] at hy
    obtain ⟨nd, h1, rfl⟩ := Option.map_eq_some_iff.mp hy
    have e1 : numsL (c.take (i + 1)) = numsL (c.take i) ++ numsOf nd := by
      rw [← tk_snoc h1, numsL_app]
      simp [numsL]
    have hi := (List.getElem?_eq_some_iff.mp h1).1
    refine is_text rfl ?_
    cases nd with
    | text lo hi =>
      have ln : (numsL (c.take i)).length ≤ 2000 := by
        have := numsL_len (c.take i)
        rw [List.length_take] at this
        omega
      refine iteT ⟨[.int lo, hiD hi], rfl, fun j a ω3 => a = (numsL (c.take i) ++ (match j with
        | 0 => []
        | 1 => [lo]
        | _ => lo :: hi.toList)).map PyData.int ∧ ω3 = ω2, ⟨by simp, rfl⟩, fun _ _ _ _ => trivial, ?_, ?_⟩
      · rintro j y a ω3 hy ⟨rfl, rfl⟩
        match j, hy with
        | 0, hy =>
          cases hy
          exact ⟨rfl, iteT ⟨by rw [List.length_map, List.length_append]; show (numsL (c.take i)).length + 0 < sizeLine; omega, by simp, rfl⟩⟩
        | 1, hy =>
          cases hy
          cases hi with
          | none => exact ⟨rfl, iteF ⟨by simp, rfl⟩⟩
          | some h => exact ⟨rfl, iteT ⟨by rw [List.length_map, List.length_append]; show (numsL (c.take i)).length + 1 < sizeLine; omega, by simp [hiD], rfl⟩⟩
        | j + 2, hy => simp at hy
      · rintro a ω3 ⟨rfl, rfl⟩
        exact ⟨by rw [e1]; rfl, rfl⟩
    | _ => exact iteF ⟨by rw [e1]; simp [numsOf], rfl⟩
  · rintro acc ω2 ⟨rfl, rfl⟩ p hp
    rw [List.length_map, List.take_length]
    refine ⟨numsL c, rsv_cell updW_same, ?_, fun k hk => ?_, fun ys hy _ => ⟨ω2, SubW.upd hp, z ys hy⟩⟩
    · have := numsL_len c
      unfold scanBound
      omega
    · obtain ⟨nd, h1, h2⟩ := numsL_mem.mp hk
      have := hm nd h1
      cases nd with
      | text lo hi =>
        obtain ⟨g1, g2, g3⟩ := this
        simp only [numsOf, List.mem_cons, Option.mem_toList] at h2
        rcases h2 with rfl | h2
        · omega
        · have := g3 k h2
          omega
      | _ => simp [numsOf] at h2
theorem dd_firsts (h : Has K mg "first_rows" sFirsts) (B : Bi mg) (D_numbers_of : Dfn P w K mg base CX0 1 "numbers_of" ["code"] (spD K dsNums)) (D_value_truths : Dfn P w K mg base CX0 5 "value_truths" ["code", "value"] (spD K (dsVT 2))) : Dfn P w K mg base CX0 6 "first_rows" ["code"] (spD K dsFirsts) := by
  refine dfnD (k := 5) h B scFirsts (fun _ _ _ _ _ _ us hl => match us, hl with | [_], _ => rfl) (fun ts ω q xx h => ?_) (fun f cv A out s H E c => ⟨_, (dss_cons (ds_set (i := 1) scFirsts.nd rfl (Or.inl rfl) (de_lstO (da_cons (de_tup (da_cons de_int (da_cons de_non (da_cons (de_d D_value_truths c (by omega) (by rfl) (da_cons (de_var (pv 0)) (da_cons de_non da_nil))) da_nil)))) (da_cons (de_tup (da_cons de_int (da_cons (de_lst da_nil) (da_cons (de_d D_value_truths c (by omega) (by rfl) (da_cons (de_var (pv 0)) (da_cons (de_lst da_nil) da_nil))) da_nil)))) da_nil))))
    (dss_cons (ds_for PassesOwn.never rfl (di_range1 (by rfl) c.b.range (da_cons (de_op (do_add rfl) (de_maxDf rfl rfl c.r.units (by rfl) c.b.max (de_d D_numbers_of c (by omega) (by rfl) (da_cons (de_var (pv 0)) da_nil)) (pk_cons pe_int pk_nil)) de_int) da_nil)) (dg_name (pg_name (i := 2) scFirsts.nd rfl (Or.inl rfl)))
    (dss_one (ds_expr (de_append rfl (de_var (pv 1)) (de_tup (da_cons (de_op (do_add rfl) (de_var (pv 2)) de_int) (da_cons (de_op (do_mulT rfl) de_str (de_var (pv 2))) (da_cons (de_d D_value_truths c (by omega) (by rfl) (da_cons (de_var (pv 0)) (da_cons (de_op (do_mulT rfl) de_str (de_var (pv 2))) da_nil))) da_nil))))))))
    (dss_one (ds_ret (de_frz (pv 1)))))), fun ts ω q xx z => ?_⟩)
  · obtain ⟨c, rfl, _⟩ := h
    rfl
  obtain ⟨c, rfl, co, hl, hm, z⟩ := z
  have sl : 100000 ≤ sizeLine := by decide
  unfold dLstO
  simp only [dAnd, dAndV, dAsg, dC, dCB, dCall, dCallX, dChain, dCons, dDrop, dErr1, dIf, dIfS, dIsi, dLst, dNext, dNil, dNot, dNotV, dOp, dOr, dOrV, dPar, dRet, dRetN, dRetS, dSeq, dSet, dSl, dTest, dTup, dVar, dgCons, dgName, dgNil, dgTup, dNeg, endsD, xcOf, dFz, startD, wipeD, List.getElem?_cons_zero, List.getElem?_cons_succ, List.set_cons_zero, List.set_cons_succ, List.map_cons, List.map_nil, List.cons_append, List.nil_append, List.length_cons, List.length_nil, List.replicate]
  refine ⟨c, .none, rfl, co, rfl, by decide, by decide, ?_⟩
  refine ⟨by decide, Nat.zero_le _, Nat.zero_le _, c, .list [], rfl, co, rfl, by decide, by decide, by decide, by decide, fun fa hfa => ?_⟩
  refine ⟨c, rfl, hl, hm, fun ys hy => ⟨ys, rfl, ?_⟩⟩
  have nb : ∀ k ∈ ys, 0 ≤ k ∧ k ≤ 62 := fun k hk => by
    obtain ⟨nd, h1, h2⟩ := numsL_mem.mp ((hy k).mp hk)
    have := hm nd h1
    cases nd with
    | text lo hi =>
      obtain ⟨g1, g2, g3⟩ := this
      simp only [numsOf, List.mem_cons, Option.mem_toList] at h2
      rcases h2 with rfl | h2
      · exact ⟨g2, g1⟩
      · exact g3 k h2
    | _ => simp [numsOf] at h2
  obtain ⟨mx, e1, h62, hmx⟩ : ∃ mx : Nat, maxOr 0 ys = (mx : Int) ∧ mx ≤ 62 ∧ ∀ k ∈ ys, k ≤ (mx : Int) := by
    rcases maxOr_spec 0 ys with ⟨e, h⟩ | ⟨h1, h2⟩
    · exact ⟨0, h, by omega, fun k hk => by rw [e] at hk; cases hk⟩
    · have := nb _ h1
      exact ⟨(maxOr 0 ys).toNat, by omega, by omega, fun k hk => by have := h2 k hk; omega⟩
  have ok : ∀ nd ∈ c, mxOk mx nd := fun nd hnd => by
    have h0 := hm nd hnd
    cases nd with
    | text lo hi =>
      have m1 : ∀ k, k ∈ numsOf (.text lo hi) → k ≤ (mx : Int) := fun k hk => hmx k ((hy k).mpr (numsL_mem.mpr ⟨_, hnd, hk⟩))
      exact ⟨m1 lo (by simp [numsOf]), h0.2.1, fun h e => ⟨(h0.2.2 h e).1, m1 h (by simp [numsOf, e])⟩⟩
    | _ => trivial
  rw [e1]
  refine ⟨by omega, by omega, fun i ρ ω' => ∃ u : Option PyData, ρ = [some (codeD c), some (refD fa), u] ∧ ω' = updW ω fa (.lst (([PyData.none, PyData.list []] ++ (List.range i).map (fun n => PyData.str (aS n))).map (rowD c))), ⟨none, rfl, rfl⟩, ?_, ?_⟩
  · rintro i y ρ ω' hy2 ⟨u, rfl, rfl⟩
    have hi : i < mx + 2 := by
      have := (List.getElem?_eq_some_iff.mp hy2).1
      rw [List.length_map, List.length_range] at this
      omega
    obtain rfl : y = .int ((i : Nat) : Int) := by
      rw [List.getElem?_map] at hy2
      obtain ⟨k, hk, rfl⟩ := Option.map_eq_some_iff.mp hy2
      have := List.getElem?_eq_some_iff.mp hk
      have e : k = i := by simpa using this.2.symm
      rw [e]
    simp only [dAnd, dAndV, dAsg, dC, dCB, dCall, dCallX, dChain, dCons, dDrop, dErr1, dIf, dIfS, dIsi, dLst, dNext, dNil, dNot, dNotV, dOp, dOr, dOrV, dPar, dRet, dRetN, dRetS, dSeq, dSet, dSl, dTest, dTup, dVar, dgCons, dgName, dgNil, dgTup, dNeg, endsD, xcOf, dFz, startD, wipeD, List.getElem?_cons_zero, List.getElem?_cons_succ, List.set_cons_zero, List.set_cons_succ, List.map_cons, List.map_nil, List.cons_append, List.nil_append, List.length_cons, List.length_nil, List.replicate]
    unfold dAppend
    simp only [dAnd, dAndV, dAsg, dC, dCB, dCall, dCallX, dChain, dCons, dDrop, dErr1, dIf, dIfS, dIsi, dLst, dNext, dNil, dNot, dNotV, dOp, dOr, dOrV, dPar, dRet, dRetN, dRetS, dSeq, dSet, dSl, dTest, dTup, dVar, dgCons, dgName, dgNil, dgTup, dNeg, endsD, xcOf, dFz, startD, wipeD, List.getElem?_cons_zero, List.getElem?_cons_succ, List.set_cons_zero, List.set_cons_succ, List.map_cons, List.map_nil, List.cons_append, List.nil_append, List.length_cons, List.length_nil, List.replicate]
    have ev := firsts_val (mx := mx) (d := .str (aS i)) (List.mem_append_right _ (List.mem_map.mpr ⟨i, List.mem_range.mpr hi, rfl⟩))
    have em := mulA i
    refine ⟨fa, _, rfl, updW_same, ?_⟩
    refine ⟨by omega, by omega, by decide, ?_⟩
    refine ⟨by omega, by omega, by decide, ?_⟩
    rw [em]
    refine ⟨c, .str (aS i), rfl, co, ev.1, by have := ev.2.2; omega, by have := ev.2.1; omega, ?_⟩
    refine ⟨by decide, _, updW_same, by simp only [List.length_cons, List.length_map, List.length_range]; omega, _, rfl, ?_⟩
    rw [updW_updW]
    have e2 : rowD c (.str (aS i)) = .tuple [.int ((i : Int) + 1), .str (aS i), bsD (vt c (.str (aS i)))] := by
      unfold rowD
      simp only [szD, aS_len, Int.natCast_add]
      rw [Int.add_comm]
      rfl
    rw [List.range_succ, List.map_append, List.map_append, List.map_cons, List.map_cons, List.map_nil, List.map_nil, e2]
    rfl
  · rintro ρ ω' ⟨u, rfl, rfl⟩
    rw [List.length_map, List.length_range, show ((mx : Int) + 2).toNat = mx + 2 by omega]
    exact ⟨fa, _, rfl, updW_same, by rw [delW_updW hfa]; exact z mx h62 ok⟩
theorem dd_longerT (h : Has K mg "longer_truths" sLongerT) (B : Bi mg) (D_all_settled : Dfn P w K mg base CX0 2 "all_settled" ["code", "sort", "count", "filled"] (spD K dsAllS)) : Dfn P w K mg base CX0 3 "longer_truths" ["code", "before", "item"] (spD K dsLongerT) := by
  refine dfnD (k := 2) h B scLongerT (fun _ _ _ _ _ _ us hl => match us, hl with | [_, _, _], _ => rfl) (fun ts ω q xx h => ?_) (fun f cv A out s H E c => ⟨_, (dss_cons (ds_setLc (i := 3) (own := [("at", 4), ("node", 5)]) (gd := (dgTup 2 (dgCons (dgName 4) (dgCons (dgName 5) dgNil)))) (is := ([4] ++ ([5] ++ []))) (tt := dYes) rfl scLongerT.nd rfl rfl (sw_true rfl rfl rfl (by decide +kernel)) (di_enumT rfl (by rfl) c.b.enumerate (da_cons (de_var (pv 0)) da_nil)) (blkOk_by (own := [("at", 4), ("node", 5)]) (N := ["code", "before", "item", "filled", "at", "node"]) (sc := defScope sLongerT) (by decide +kernel)) (fun _ _ _ _ _ => (dg_tup rfl rfl (dgs_cons (dg_name (pg_name (i := 4) scLongerT.nd rfl (Or.inl rfl))) (dgs_cons (dg_name (pg_name (i := 5) scLongerT.nd rfl (Or.inl rfl))) dgs_nil)))) (fun _ _ _ _ _ => dts_nil) (fun _ _ _ _ _ => (de_and (de_cmp (do_eq rfl c.r.units) (de_ix rfl (de_var (pv 5)) de_int (fun _ _ => rfl)) de_str (nomark _)) (de_and (de_ix rfl (de_var (pv 1)) (de_var (pv 4)) (fun _ _ => rfl)) (de_one (de_ix rfl (de_var (pv 2)) (de_ix rfl (de_var (pv 5)) de_int (fun _ _ => rfl)) (fun _ _ => rfl)))))))
    (dss_one (ds_ret (de_d D_all_settled c (by omega) (by rfl) (da_cons (de_var (pv 0)) (da_cons de_str (da_cons de_int (da_cons (de_var (pv 3)) da_nil)))))))), fun ts ω q xx z => ?_⟩)
  · obtain ⟨c, b, t, rfl, _⟩ := h
    rfl
  obtain ⟨c, b, t, rfl, co, hb, ht, z⟩ := z
  have sl : 100000 ≤ sizeLine := by decide
  have cl := co.len
  simp only [dAnd, dAndV, dAsg, dC, dCB, dCall, dCallX, dChain, dCons, dDrop, dErr1, dIf, dIfS, dIsi, dLst, dNext, dNil, dNot, dNotV, dOp, dOr, dOrV, dPar, dRet, dRetN, dRetS, dSeq, dSet, dSl, dTest, dTup, dVar, dgCons, dgName, dgNil, dgTup, dNeg, endsD, xcOf, dFz, startD, wipeD, List.getElem?_cons_zero, List.getElem?_cons_succ, List.set_cons_zero, List.set_cons_succ, List.map_cons, List.map_nil, List.cons_append, List.nil_append, List.length_cons, List.length_nil, List.replicate]
  refine ⟨by rw [enum_len, List.length_map]; omega, fun i acc ω2 => acc = (fillsL b t 0 (c.take i)).map PyData.bool ∧ ω2 = ω, ⟨rfl, rfl⟩, ?_, ?_⟩
  · rintro i y acc ω2 hy ⟨rfl, rfl⟩ _
    obtain ⟨x, h0, rfl⟩ := enum_get hy
    rw [List.getElem?_map] at h0
    obtain ⟨nd, h1, rfl⟩ := Option.map_eq_some_iff.mp h0
    simp only [dAnd, dAndV, dAsg, dC, dCB, dCall, dCallX, dChain, dCons, dDrop, dErr1, dIf, dIfS, dIsi, dLst, dNext, dNil, dNot, dNotV, dOp, dOr, dOrV, dPar, dRet, dRetN, dRetS, dSeq, dSet, dSl, dTest, dTup, dVar, dgCons, dgName, dgNil, dgTup, dNeg, endsD, xcOf, dFz, startD, wipeD, List.getElem?_cons_zero, List.getElem?_cons_succ, List.set_cons_zero, List.set_cons_succ, List.map_cons, List.map_nil, List.cons_append, List.nil_append, List.length_cons, List.length_nil, List.replicate]
    refine ⟨trivial, trivial, ?_⟩
    unfold dYes
    simp only [dAnd, dAndV, dAsg, dC, dCB, dCall, dCallX, dChain, dCons, dDrop, dErr1, dIf, dIfS, dIsi, dLst, dNext, dNil, dNot, dNotV, dOp, dOr, dOrV, dPar, dRet, dRetN, dRetS, dSeq, dSet, dSl, dTest, dTup, dVar, dgCons, dgName, dgNil, dgTup, dNeg, endsD, xcOf, dFz, startD, wipeD, List.getElem?_cons_zero, List.getElem?_cons_succ, List.set_cons_zero, List.set_cons_succ, List.map_cons, List.map_nil, List.cons_append, List.nil_append, List.length_cons, List.length_nil, List.replicate]
    simp only [if_true]
    have hi := (List.getElem?_eq_some_iff.mp h1).1
    have step : ∀ b', b' = fillL b t i nd → (fillsL b t 0 (c.take i)).map PyData.bool ++ [PyData.bool b'] = (fillsL b t 0 (c.take (i + 1))).map PyData.bool := fun b' e => by
      rw [e, ← tk_snoc h1, fillsL_app, List.map_append, List.length_take, Nat.min_eq_left (Nat.le_of_lt hi), Nat.zero_add]
      rfl
    cases nd with
    | lists k =>
      have hk : k < c.length := co.in_ _ (List.mem_of_getElem? h1)
      simp only [ndD, ixD, rsv]
      refine ⟨_, rfl, ?_⟩
      simp only [eqD, w_lists_lists]
      refine ⟨_, told_at (by omega), ?_⟩
      cases hbi : b.getD i false with
      | true => exact iteT ⟨_, rfl, ⟨_, told_at (by omega), step _ (by simp only [fillL, hbi, Bool.true_and]), by trivial⟩⟩
      | false => exact iteF ⟨step _ (by simp only [fillL, hbi, Bool.false_and]), by trivial⟩
    | _ =>
      simp only [ndD, ixD, rsv]
      refine ⟨_, rfl, ?_⟩
      simp only [eqD, w_any_lists, w_never_lists, w_nothing_lists, w_text_lists, w_nested_lists, w_not_lists, w_or_lists, w_and_lists, w_less_lists]
      exact iteF ⟨step false rfl, by trivial⟩
  · rintro acc ω2 _ ⟨rfl, rfl⟩
    rw [enum_len, List.length_map, List.take_length]
    exact ⟨c, .ls, 0, fillsL b t 0 c, rfl, by rw [fillsL_len], co, z⟩
theorem dd_longerR (h : Has K mg "longer_row" sLongerR) (B : Bi mg) (D_longer_truths : Dfn P w K mg base CX0 3 "longer_truths" ["code", "before", "item"] (spD K dsLongerT)) : Dfn P w K mg base CX0 4 "longer_row" ["code", "one", "other"] (spD K dsLongerR) := by
  refine dfnD (k := 3) h B scLongerR (fun _ _ _ _ _ _ us hl => match us, hl with | [_, _, _], _ => rfl) (fun ts ω q xx h => ?_) (fun f cv A out s H E c => ⟨_, (dss_one (ds_ret (de_tup (da_cons (de_op (do_add rfl) (de_ix rfl (de_var (pv 1)) de_int (fun _ _ => rfl)) (de_ix rfl (de_var (pv 2)) de_int (fun _ _ => rfl))) (da_cons (de_op (do_add rfl) (de_ix rfl (de_var (pv 1)) de_int (fun _ _ => rfl)) (de_lst (da_cons (de_ix rfl (de_var (pv 2)) de_int (fun _ _ => rfl)) da_nil))) (da_cons (de_d D_longer_truths c (by omega) (by rfl) (da_cons (de_var (pv 0)) (da_cons (de_ix rfl (de_var (pv 1)) de_int (fun _ _ => rfl)) (da_cons (de_ix rfl (de_var (pv 2)) de_int (fun _ _ => rfl)) da_nil)))) da_nil)))))), fun ts ω q xx z => ?_⟩)
  · obtain ⟨c, v, w, rfl, _⟩ := h
    rfl
  obtain ⟨c, v, w, rfl, co, lv, sz, z⟩ := z
  have sl : 2000000 ≤ sizeLine := by decide
  simp only [dAnd, dAndV, dAsg, dC, dCB, dCall, dCallX, dChain, dCons, dDrop, dErr1, dIf, dIfS, dIsi, dLst, dNext, dNil, dNot, dNotV, dOp, dOr, dOrV, dPar, dRet, dRetN, dRetS, dSeq, dSet, dSl, dTest, dTup, dVar, dgCons, dgName, dgNil, dgTup, dNeg, endsD, xcOf, dFz, startD, wipeD, List.getElem?_cons_zero, List.getElem?_cons_succ, List.set_cons_zero, List.set_cons_succ, List.map_cons, List.map_nil, List.cons_append, List.nil_append, List.length_cons, List.length_nil, List.replicate]
  refine ⟨_, rfl, ⟨_, rfl, ⟨_, rfl, ⟨_, rfl, ?_⟩⟩⟩⟩
  cases v with
  | list xs =>
    simp only [its] at sz
    refine ⟨by decide, by show xs.length + 1 ≤ sizeLine; omega, ⟨_, rfl, ⟨_, rfl, ?_⟩⟩⟩
    refine ⟨c, vt c (.list xs), vt c w, rfl, co, vt_len _ _, vt_len _ _, by decide, ?_⟩
    rw [← vt_app c w lv]
    have e : rowD c (appD (.list xs) w) = .tuple [.int (((szD (.list xs) : Nat) : Int) + ((szD w : Nat) : Int)), .list (xs ++ [w]), bsD (vt c (appD (.list xs) w))] := by
      unfold rowD
      rw [sz_app lv]
      simp only [Int.natCast_add]
      rfl
    rw [← e]
    exact z
  | _ => cases lv
theorem dd_isNew (h : Has K mg "is_new" sIsNew) (B : Bi mg) : Dfn P w K mg base CX0 1 "is_new" ["row", "found"] (spD K dsIsNew) := by
  refine dfnD (k := 0) h B scIsNew (fun _ _ _ _ _ _ us hl => match us, hl with | [_, _], _ => rfl) (fun ts ω q xx h => ?_) (fun f cv A out s H E c => ⟨_, (dss_cons (ds_set (i := 2) scIsNew.nd rfl (Or.inr rfl) (de_isi (T := "list") rfl kit_list (by rfl) c.b.isinstance (de_ix rfl (de_var (pv 0)) de_int (fun _ _ => rfl)) (pe_bltn (v := .ty "list") (by rfl) c.b.list (by decide +kernel) rfl)))
    (dss_one (ds_retS (de_callB (dc_all rfl rfl) (by rfl) c.b.all (by decide +kernel) (da_cons (de_lcO (own := [("each", 3)]) (gd := (dgName 3)) (is := [3]) (tt := dYes) rfl scIsNew.nd (dio_o rfl (de_var (pv 1))) (blkOk_by (own := [("each", 3)]) (N := ["row", "found", "is_list", "each"]) (sc := defScope sIsNew) (by decide +kernel)) (fun _ _ _ _ _ => (dg_name (pg_name (i := 3) scIsNew.nd rfl (Or.inl rfl)))) (fun _ _ _ _ _ => dts_nil) (fun _ _ _ _ _ => (de_or (de_cmp (do_ne rfl c.r.units) (de_ix rfl (de_var (pv 3)) de_int (fun _ _ => rfl)) (de_ix rfl (de_var (pv 0)) de_int (fun _ _ => rfl)) (nomark _)) (de_one (de_cmp (do_ne rfl c.r.units) (de_isi (T := "list") rfl kit_list (by rfl) c.b.isinstance (de_ix rfl (de_var (pv 3)) de_int (fun _ _ => rfl)) (pe_bltn (v := .ty "list") (by rfl) c.b.list (by decide +kernel) rfl)) (de_var (pv 2)) (nomark _)))))) da_nil))))), fun ts ω q xx z => ?_⟩)
  · obtain ⟨c, v, f, found, rfl, _⟩ := h
    rfl
  obtain ⟨c, v, f, found, rfl, ef, vv, vf, hf, z⟩ := z
  have sl : 1000000 ≤ sizeLine := by decide
  simp only [dAnd, dAndV, dAsg, dC, dCB, dCall, dCallX, dChain, dCons, dDrop, dErr1, dIf, dIfS, dIsi, dLst, dNext, dNil, dNot, dNotV, dOp, dOr, dOrV, dPar, dRet, dRetN, dRetS, dSeq, dSet, dSl, dTest, dTup, dVar, dgCons, dgName, dgNil, dgTup, dNeg, endsD, xcOf, dFz, startD, wipeD, List.getElem?_cons_zero, List.getElem?_cons_succ, List.set_cons_zero, List.set_cons_succ, List.map_cons, List.map_nil, List.cons_append, List.nil_append, List.length_cons, List.length_nil, List.replicate]
  refine ⟨v, rfl, ?_⟩
  dsimp only
  rw [rsv_val vv]
  refine ⟨isi_val vv, f, _, rfl, ef, by rw [List.length_map]; omega, fun i acc ω2 => acc = (found.take i).map (fun e => PyData.bool (!decide (same c e v))) ∧ ω2 = ω, ⟨rfl, rfl⟩, fun i acc ω2 h => by rw [h.2]; exact ef, ?_, ?_⟩
  · rintro i y acc ω2 hy ⟨rfl, rfl⟩ _
    rw [List.getElem?_map] at hy
    obtain ⟨e, h1, rfl⟩ := Option.map_eq_some_iff.mp hy
    have ve := vf e (List.mem_of_getElem? h1)
    simp only [dAnd, dAndV, dAsg, dC, dCB, dCall, dCallX, dChain, dCons, dDrop, dErr1, dIf, dIfS, dIsi, dLst, dNext, dNil, dNot, dNotV, dOp, dOr, dOrV, dPar, dRet, dRetN, dRetS, dSeq, dSet, dSl, dTest, dTup, dVar, dgCons, dgName, dgNil, dgTup, dNeg, endsD, xcOf, dFz, startD, wipeD, List.getElem?_cons_zero, List.getElem?_cons_succ, List.set_cons_zero, List.set_cons_succ, List.map_cons, List.map_nil, List.cons_append, List.nil_append, List.length_cons, List.length_nil, List.replicate]
    unfold dYes
    simp only [dAnd, dAndV, dAsg, dC, dCB, dCall, dCallX, dChain, dCons, dDrop, dErr1, dIf, dIfS, dIsi, dLst, dNext, dNil, dNot, dNotV, dOp, dOr, dOrV, dPar, dRet, dRetN, dRetS, dSeq, dSet, dSl, dTest, dTup, dVar, dgCons, dgName, dgNil, dgTup, dNeg, endsD, xcOf, dFz, startD, wipeD, List.getElem?_cons_zero, List.getElem?_cons_succ, List.set_cons_zero, List.set_cons_succ, List.map_cons, List.map_nil, List.cons_append, List.nil_append, List.length_cons, List.length_nil, List.replicate]
    simp only [if_true]
    refine ⟨_, rfl, ⟨_, rfl, ?_⟩⟩
    refine ⟨_, _, .inl rfl, .inl rfl, bsD_shaped, bsD_shaped, ?_⟩
    rw [eqv_bsD]
    have step : ∀ b, b = !decide (same c e v) → (found.take i).map (fun e => PyData.bool (!decide (same c e v))) ++ [PyData.bool b] = (found.take (i + 1)).map (fun e => PyData.bool (!decide (same c e v))) := fun b e => by
      rw [e, ← tk_snoc h1, List.map_append]
      rfl
    by_cases hs : vt c e = vt c v
    · rw [decide_eq_true hs]
      refine iteF ⟨e, rfl, ?_⟩
      dsimp only
      rw [rsv_val ve]
      refine ⟨isi_val ve, _, _, .inl rfl, .inl rfl, bool_shapedR _, bool_shapedR _, ?_⟩
      rw [eqv_boolR]
      refine ⟨step _ ?_, by trivial⟩
      unfold same
      simp [hs]
    · rw [decide_eq_false hs]
      refine iteT ⟨step _ ?_, by trivial⟩
      rw [decide_eq_false (fun z => hs z.1)]
      rfl
  · rintro acc ω2 _ ⟨rfl, rfl⟩ p hp
    rw [List.length_map, List.take_length]
    refine ⟨_, found.map (fun e => !decide (same c e v)), rfl, by rw [rsv_cell updW_same, List.map_map]; rfl, ?_⟩
    refine ⟨ω2, SubW.upd hp, ?_⟩
    rw [List.all_map]
    exact z
end
end Tx

namespace Tx
open PySem PySem.Spec PyProof.Rows L2
/-! ## least rows: how many, how deep, how large (plain) -/
def kvec (rows : List (List Bool)) : List Nd → List Bool
  | [] => []
  | .lists k :: c => (rows.all fun row => row.getD k false) :: kvec rows c
  | _ :: c => kvec rows c
def nLs : List Nd → Nat
  | [] => 0
  | .lists _ :: c => nLs c + 1
  | _ :: c => nLs c
theorem kvec_len (rows : List (List Bool)) : ∀ c : List Nd, (kvec rows c).length = nLs c
  | [] => rfl
  | nd :: c => by
    have := kvec_len rows c
    cases nd <;> simp only [kvec, nLs, List.length_cons, this]
theorem kvec_fill {r r' : List (List Bool)} : ∀ c : List Nd, kvec r c = kvec r' c → c.map (fillB r) = c.map (fillB r')
  | [], _ => rfl
  | nd :: c, h => by
    cases nd with
    | lists k =>
      simp only [kvec, List.cons.injEq] at h
      simp only [List.map_cons, fillB, h.1, kvec_fill c h.2]
    | _ =>
      simp only [kvec] at h
      simp only [List.map_cons, fillB, kvec_fill c h]
def allB : Nat → List (List Bool)
  | 0 => [[]]
  | n + 1 => (allB n).map (true :: ·) ++ (allB n).map (false :: ·)
theorem len_allB : ∀ n, (allB n).length = 2 ^ n
  | 0 => rfl
  | n + 1 => by simp only [allB, List.length_append, List.length_map, len_allB n]; rw [Nat.pow_succ]; omega
theorem mem_allB : ∀ l : List Bool, l ∈ allB l.length
  | [] => List.mem_cons_self
  | true :: l => List.mem_append_left _ (List.mem_map.mpr ⟨l, mem_allB l, rfl⟩)
  | false :: l => List.mem_append_right _ (List.mem_map.mpr ⟨l, mem_allB l, rfl⟩)
theorem vt_ls (c : List Nd) {v : PyData} (h : isL v = true) : vt c v = stl .ls 0 c (c.map (fillB ((its v).map (vt c)))) [] := by
  cases v with
  | list xs =>
    simp only [vt, its, vtAll_map]
    unfold truthsB
    exact stl_ls c _ _
  | _ => cases h
def nLF (found : List PyData) : Nat := (found.filter isL).length
theorem split_len (p : PyData → Bool) : ∀ l : List PyData, l.length = (l.filter p).length + (l.filter fun x => !p x).length
  | [] => rfl
  | x :: l => by
    have := split_len p l
    cases h : p x <;> simp [List.filter_cons, h] <;> omega
section
variable {c : List Nd} {F found wait : List PyData} {r : PyData} {M : Nat}
theorem LR.nl_le (h : LR c F found wait) : nLF found ≤ 2 ^ nLs c := by
  have p : ((found.filter isL).map fun v => kvec ((its v).map (vt c)) c).Nodup := by
    refine List.pairwise_map.mpr ((List.Pairwise.and_mem.mp (h.dist.filter isL)).imp fun {a b} z e => z.2.2 ?_)
    have ha := (List.mem_filter.mp z.1).2
    have hb := (List.mem_filter.mp z.2.1).2
    exact ⟨by rw [vt_ls c ha, vt_ls c hb, kvec_fill c e], by rw [ha, hb]⟩
  have := nodup_le (m := allB (nLs c)) p fun x hx => by
    obtain ⟨v, _, rfl⟩ := List.mem_map.mp hx
    have := mem_allB (kvec ((its v).map (vt c)) c)
    rw [kvec_len] at this
    exact this
  rw [List.length_map, len_allB] at this
  exact this
theorem LR.len (h : LR c F found wait) : found.length ≤ F.length + 2 ^ nLs c := by
  have h1 := h.nl_le
  have h2 : (found.filter fun x => !isL x).length ≤ F.length := by
    have p : (found.filter fun x => !isL x).Nodup := (h.dist.filter _).imp fun {a b} z e => z (by rw [e]; exact ⟨rfl, rfl⟩)
    classical
    exact nodup_le p fun x hx => by
      obtain ⟨m1, m2⟩ := List.mem_filter.mp hx
      exact h.src x (.inl m1) (by simpa using m2)
  have := split_len isL found
  unfold nLF at h1
  omega
structure LB (F : List PyData) (M : Nat) (found wait : List PyData) : Prop where
  dep : ∀ v ∈ found, v.depth ≤ nLF found
  depw : ∀ v ∈ wait, v.depth ≤ nLF found + 1
  sz : ∀ v ∈ found, szD v ≤ M * 2 ^ nLF found
  szw : ∀ v ∈ wait, szD v ≤ M * 2 ^ (nLF found + 1)
  lenw : wait.length ≤ F.length + found.length * (found.length + 1)
  lei : ∀ v ∈ found, (its v).length ≤ nLF found
  leiw : ∀ v ∈ wait, (its v).length ≤ nLF found + 1
theorem its_nil {d : PyData} (h : isL d = false) : its d = [] := by cases d <;> first | rfl | cases h
theorem fresh_len (found : List PyData) (r : PyData) : (freshOf found r).length ≤ 2 * found.length := by
  unfold freshOf
  have := List.length_filter_le isL found
  split <;> simp only [List.length_append, List.length_map, List.length_nil] <;> omega
theorem LB.step (h : LR c F found wait) (b : LB F M found wait) (hr : r ∈ wait) (hF : ∀ d ∈ F, szD d ≤ M ∧ (isL d = false → d.depth = 0)) : LB F M (found ++ [r]) (nextW c found wait r) := by
  have nle : nLF found ≤ nLF (found ++ [r]) := by unfold nLF; rw [List.filter_append, List.length_append]; omega
  have ple : 2 ^ nLF found ≤ 2 ^ nLF (found ++ [r]) := Nat.pow_le_pow_right (by decide) nle
  have one : 1 ≤ 2 ^ nLF (found ++ [r]) := Nat.one_le_two_pow
  have fin : ∀ x, x ∈ found ++ [r] → x ∈ found ∨ x = r := fun x hx => by
    rcases List.mem_append.mp hx with z | z
    · exact .inl z
    · exact .inr (List.mem_singleton.mp z)
  have rb : r.depth ≤ nLF (found ++ [r]) ∧ szD r ≤ M * 2 ^ nLF (found ++ [r]) ∧ (its r).length ≤ nLF (found ++ [r]) := by
    cases hl : isL r with
    | true =>
      have e : nLF (found ++ [r]) = nLF found + 1 := by unfold nLF; rw [List.filter_append, List.length_append]; simp [List.filter_cons, hl]
      rw [e]
      exact ⟨b.depw r hr, b.szw r hr, b.leiw r hr⟩
    | false =>
      obtain ⟨h1, h2⟩ := hF r (h.src r (.inr hr) hl)
      exact ⟨by rw [h2 hl]; omega, Nat.le_trans h1 (Nat.le_mul_of_pos_right _ one), by rw [its_nil hl]; exact Nat.zero_le _⟩
  have dep : ∀ v ∈ found ++ [r], v.depth ≤ nLF (found ++ [r]) := fun v hv => by
    rcases fin v hv with z | rfl
    · exact Nat.le_trans (b.dep v z) nle
    · exact rb.1
  have sz : ∀ v ∈ found ++ [r], szD v ≤ M * 2 ^ nLF (found ++ [r]) := fun v hv => by
    rcases fin v hv with z | rfl
    · exact Nat.le_trans (b.sz v z) (Nat.mul_le_mul_left _ ple)
    · exact rb.2.1
  have lei : ∀ v ∈ found ++ [r], (its v).length ≤ nLF (found ++ [r]) := fun v hv => by
    rcases fin v hv with z | rfl
    · exact Nat.le_trans (b.lei v z) nle
    · exact rb.2.2
  have rm : r ∈ found ++ [r] := List.mem_append_right _ List.mem_cons_self
  have pw : M * 2 ^ (nLF (found ++ [r]) + 1) = M * 2 ^ nLF (found ++ [r]) + M * 2 ^ nLF (found ++ [r]) := by rw [Nat.pow_succ, Nat.mul_two, Nat.mul_add]
  refine ⟨dep, fun w hw => ?_, sz, fun w hw => ?_, ?_, lei, fun w hw => ?_⟩
  · rcases List.mem_append.mp (List.mem_filter.mp hw).1 with z | z
    · have := b.depw w z
      omega
    · obtain ⟨x, y, hx, hy, hl, rfl, _⟩ := fresh_of rm z
      rw [depth_app hl]
      have := dep x hx
      have := dep y hy
      omega
  · rcases List.mem_append.mp (List.mem_filter.mp hw).1 with z | z
    · exact Nat.le_trans (b.szw w z) (Nat.mul_le_mul_left _ (Nat.pow_le_pow_right (by decide) (by omega)))
    · obtain ⟨x, y, hx, hy, hl, rfl, _⟩ := fresh_of rm z
      rw [sz_app hl, pw]
      have := sz x hx
      have := sz y hy
      omega
  · have h1 : (nextW c found wait r).length ≤ (wait ++ freshOf (found ++ [r]) r).length := List.length_filter_le _ _
    have h2 := fresh_len (found ++ [r]) r
    have h3 := b.lenw
    rw [List.length_append] at h1
    simp only [List.length_append, List.length_singleton] at h2 ⊢
    have e : (found.length + 1) * (found.length + 1 + 1) = found.length * (found.length + 1) + 2 * (found.length + 1) := by
      rw [Nat.mul_add (found.length + 1) (found.length + 1) 1, Nat.mul_comm found.length (found.length + 1), Nat.mul_add (found.length + 1) found.length 1]
      omega
    omega
  · rcases List.mem_append.mp (List.mem_filter.mp hw).1 with z | z
    · have := b.leiw w z
      omega
    · obtain ⟨x, y, hx, hy, hl, rfl, _⟩ := fresh_of rm z
      have := lei x hx
      show (its x ++ [y]).length ≤ _
      rw [List.length_append, List.length_singleton]
      omega
theorem LR.start (hv : ∀ d ∈ F, isVal d = true) : LR c F [] F where
  new := fun _ _ => rfl
  val := fun v h => hv v (h.resolve_left (by simp))
  sort := .nil
  le := fun v h => by cases h
  dist := .nil
  first := fun w h => .inl h
  app := fun v h => by cases h
  src := fun v h _ => h.resolve_left (by simp)
theorem LB.start (hF : ∀ d ∈ F, szD d ≤ M ∧ d.depth ≤ 1 ∧ its d = []) : LB F M [] F where
  dep := fun v h => by cases h
  depw := fun v h => by have := (hF v h).2.1; show v.depth ≤ 0 + 1; omega
  sz := fun v h => by cases h
  szw := fun v h => by
    have := (hF v h).1
    show szD v ≤ M * 2
    omega
  lenw := by simp
  lei := fun v h => by cases h
  leiw := fun v h => by rw [(hF v h).2.2]; exact Nat.zero_le _
end
end Tx

namespace Tx
open PySem PySem.Spec PyProof.Rows L2
/-! ## x = [.. for ..] as a list of one's own -/
section
variable {W : WX} {X : Cx} {K : PySem.W.Frag} {elt tg iter : Expr} {ifs : List Expr} {scope : Scope} {own : List (Str × Nat)} {pos : Pos} {is : List Nat} {di : DTIo} {gd : DTG} {tt : DTT} {te : DTE}
theorem ds_setLcO {i : Nat} {y : Str} {py spos : Pos} (hc : X.calm = true) (hN : X.N.Nodup) (hy : X.N[i]? = some y) (hyl : X.env.scope.names.lookup y = some .local)
    (hsw : swapsWith (.ListComp elt [⟨tg, iter, ifs, 0⟩] scope pos) (some (.Name y py)) spos.line X.env = pure true) (hi : DIo W X K tg iter di) (ok : BlkOk X.N X.env.scope scope own)
    (hg : ∀ (s : Shared) (H : Hp) (C : Addr) (cl : List (Str × Addr)) (fp : List Addr), DG (X.blk s H scope (compEnvC scope cl C X.env) fp) K tg is gd)
    (ht : ∀ (s : Shared) (H : Hp) (C : Addr) (cl : List (Str × Addr)) (fp : List Addr), DTs W0 (X.blk s H scope (compEnvC scope cl C X.env) fp) K ifs tt)
    (he : ∀ (s : Shared) (H : Hp) (C : Addr) (cl : List (Str × Addr)) (fp : List Addr), DE W0 (X.blk s H scope (compEnvC scope cl C X.env) fp) K elt te)
    (his : ∀ i ∈ is, i ∈ own.map (·.2) := by decide) (hs : ∀ x, foldedSetIterable iter X.env x = pure x := by intro _; rfl) :
    DSt W X K (.Assign [.Name y py] (.ListComp elt [⟨tg, iter, ifs, 0⟩] scope pos) spos) (dSet i (dLcO di gd tt te (own.map (·.2)))) := by
  obtain ⟨wi, p, k⟩ := hi
  refine ⟨_, ps_setLc hc hN hy hyl hsw p ok hg (fun s H C cl fp => (ht s H C cl fp).ps) (fun s H C cl fp => (he s H C cl fp).pe) hs, fun D DD σ H J ω ρ w s cs z => lcO_run (q := fun r ω1 => DD.nx (ρ.set i (some r)) ω1) k his w s (fun d ω1 v J1 H1 z1 g1 w1 rp => ?_) (cs.x s) z⟩
  exact cs.nx _ _ _ _ _ z1 g1 w1 ((s.mono g1.jj).set i rp)
end
end Tx

namespace Tx
open PySem PySem.Spec PyProof.Rows L2
/-! ## while over data -/
theorem ds_while {W : WX} {X : Cx} {K : PySem.W.Frag} {c : Expr} {body : List Stmt} {pos : Pos} {dc : DTT} {t : DTS} (hp : PassesOwn (model X.prog X.w) X.A X.env X.xe) (hc : DT W X K c dc) (hb : DSs W X K body t) : DSt W X K (.While c body [] pos) (dWhile dc t) := by
  obtain ⟨rc, pc, kc⟩ := hc
  obtain ⟨rb, pb, kb⟩ := hb
  refine ⟨_, ps_while hp pc pb, fun D DD σ H J ω ρ w s cs z => ?_⟩
  obtain ⟨Inv, ⟨m, i0⟩, step⟩ := z
  refine ⟨fun n σ' H' => ∃ J' ρ' ω', Grow J H ω J' H' ω' ∧ Rw K J' H' ω' ∧ Sl K J' σ' ρ' ∧ Inv n ρ' ω', ⟨m, J, ρ, ω, Grow.refl, w, s, i0⟩, ?_⟩
  rintro n σ1 H1 ⟨J1, ρ1, ω1, g1, w1, s1, inv⟩
  have cs1 := cs.step g1
  refine kc σ1 H1 J1 ω1 ρ1 _ _ _ w1 s1 (fun b ω2 J2 H2 z2 g2 w2 => ?_) (cs1.x s1) (step n ρ1 ω1 inv)
  have cs2 := cs1.step g2
  cases b with
  | true =>
    refine iteT ⟨fun σ' H' => ∃ n', n' < n ∧ ∃ J' ρ' ω', Grow J H ω J' H' ω' ∧ Rw K J' H' ω' ∧ Sl K J' σ' ρ' ∧ Inv n' ρ' ω', fun σ' H' h => h, ?_⟩
    exact kb _ { DD with nx := fun ρ2 ω2 => ∃ m', m' < n ∧ Inv m' ρ2 ω2, ct := fun ρ2 ω2 => ∃ m', m' < n ∧ Inv m' ρ2 ω2, bk := DD.nx } σ1 H2 J2 ω2 ρ1 w2 (s1.mono g2.jj)
      ⟨fun ρ5 ω5 σ5 J5 H5 ⟨m', hm, z5⟩ g5 w5 s5 => ⟨m', hm, J5, ρ5, ω5, (g1.trans g2).trans g5, w5, s5, z5⟩, cs2.nx, fun ρ5 ω5 σ5 J5 H5 ⟨m', hm, z5⟩ g5 w5 s5 => ⟨m', hm, J5, ρ5, ω5, (g1.trans g2).trans g5, w5, s5, z5⟩, cs2.rt, cs2.xc⟩ z2
  | false => exact cs2.nx _ _ _ _ _ z2 Grow.refl w2 (s1.mono g2.jj)
end Tx

namespace Tx
open PySem PySem.Spec PyProof.Rows L2
/-! ## least rows: the walk -/
/-- 0 code, 1 found, 2 waiting, 3 least, 4 row, 5 fresh, 6 each -/
abbrev sLeastR : Stmt := top 18
theorem scLeastR : FnScope ["code", "found", "waiting", "least", "row", "fresh", "each"] ["code"] (defScope sLeastR) := ⟨rfl, rfl, rfl, by decide +kernel, rfl, by decide +kernel, by decide +kernel⟩
def w1 : DTS := dSet 3 (dCB minD (dCons (dLc (diData (dVar 2)) (dgName 4) dYes (dOp ixD (dVar 4) (dC (PyData.int 0))) [4]) dNil))
def w2 : DTS := dSet 4 (dOp ixD (dLc (diData (dVar 2)) (dgName 6) (dTest (dOp eqD (dOp ixD (dVar 6) (dC (PyData.int 0))) (dVar 3))) (dVar 6) [6]) (dC (PyData.int 0)))
def w3 : DTS := dSet 5 (dLst dNil)
def w4a : DTS := dSet 5 (dLcO (dioO (dVar 1)) (dgName 6) dYes (dCall dsLongerR (dCons (dVar 0) (dCons (dVar 4) (dCons (dVar 6) dNil)))) [6])
def w4b : DTS := dSet 5 (dOp addD (dVar 5) (dLcO (dioO (dVar 1)) (dgName 6) (dTest (dIsi isL (dOp ixD (dVar 6) (dC (PyData.int 1))))) (dCall dsLongerR (dCons (dVar 0) (dCons (dVar 6) (dCons (dVar 4) dNil)))) [6]))
def w4 : DTS := dIfS (dTest (dCall dsIsNew (dCons (dVar 4) (dCons (dVar 1) dNil)))) (dSeq (dDrop (dAppend (dVar 1) (dVar 4))) (dSeq (dIfS (dTest (dIsi isL (dOp ixD (dVar 4) (dC (PyData.int 1))))) w4a dNext) w4b)) dNext
def w5 : DTS := dSet 2 (dLc (diData (dOp addD (dVar 2) (dVar 5))) (dgName 6) (dTest (dCall dsIsNew (dCons (dVar 6) (dCons (dVar 1) dNil)))) (dVar 6) [6])
section
variable {c : List Nd} {f : Addr} {found wait fresh A : List PyData} {r u : PyData} {m : Int} {ω : Wd} {D : DEnds} {s0 s1 s2 s3 s4 s5 s6 : Option PyData}
theorem w1_ok (h0 : wait ≠ []) (hl : wait.length ≤ 1000000) (nx : ∀ m : Int, (∃ v ∈ wait, ((szD v : Nat) : Int) = m) → (∀ v ∈ wait, m ≤ ((szD v : Nat) : Int)) → D.nx [s0, s1, some (.list (wait.map (rowD c))), some (.int m), s4, s5, s6] ω) :
    w1 D [s0, s1, some (.list (wait.map (rowD c))), s3, s4, s5, s6] ω := by
  have sl : 1000000 ≤ sizeLine := by decide
  unfold w1
  simp only [dAnd, dAndV, dAsg, dC, dCB, dCall, dCallX, dChain, dCons, dDrop, dErr1, dIf, dIfS, dIsi, dLst, dNext, dNil, dNot, dNotV, dOp, dOr, dOrV, dPar, dRet, dRetN, dRetS, dSeq, dSet, dSl, dTest, dTup, dVar, dgCons, dgName, dgNil, dgTup, dNeg, endsD, xcOf, dFz, startD, wipeD, List.getElem?_cons_zero, List.getElem?_cons_succ, List.set_cons_zero, List.set_cons_succ, List.map_cons, List.map_nil, List.cons_append, List.nil_append, List.length_cons, List.length_nil, List.replicate]
  refine ⟨_, rfl, by rw [List.length_map]; omega, fun i acc ω2 => acc = (wait.take i).map (fun v => PyData.int ((szD v : Nat) : Int)) ∧ ω2 = ω, ⟨rfl, rfl⟩, ?_, ?_⟩
  · rintro i y acc ω2 hy ⟨rfl, rfl⟩ _
    rw [List.getElem?_map] at hy
    obtain ⟨v, h1, rfl⟩ := Option.map_eq_some_iff.mp hy
    simp only [dAnd, dAndV, dAsg, dC, dCB, dCall, dCallX, dChain, dCons, dDrop, dErr1, dIf, dIfS, dIsi, dLst, dNext, dNil, dNot, dNotV, dOp, dOr, dOrV, dPar, dRet, dRetN, dRetS, dSeq, dSet, dSl, dTest, dTup, dVar, dgCons, dgName, dgNil, dgTup, dNeg, endsD, xcOf, dFz, startD, wipeD, List.getElem?_cons_zero, List.getElem?_cons_succ, List.set_cons_zero, List.set_cons_succ, List.map_cons, List.map_nil, List.cons_append, List.nil_append, List.length_cons, List.length_nil, List.replicate]
    unfold dYes
    simp only [dAnd, dAndV, dAsg, dC, dCB, dCall, dCallX, dChain, dCons, dDrop, dErr1, dIf, dIfS, dIsi, dLst, dNext, dNil, dNot, dNotV, dOp, dOr, dOrV, dPar, dRet, dRetN, dRetS, dSeq, dSet, dSl, dTest, dTup, dVar, dgCons, dgName, dgNil, dgTup, dNeg, endsD, xcOf, dFz, startD, wipeD, List.getElem?_cons_zero, List.getElem?_cons_succ, List.set_cons_zero, List.set_cons_succ, List.map_cons, List.map_nil, List.cons_append, List.nil_append, List.length_cons, List.length_nil, List.replicate]
    simp only [if_true]
    refine ⟨_, rfl, ?_⟩
    rw [← tk_snoc h1, List.map_append]
    exact ⟨rfl, by trivial⟩
  · rintro acc ω2 _ ⟨rfl, rfl⟩
    rw [List.length_map, List.take_length]
    refine ⟨_, wait.map (fun v => ((szD v : Nat) : Int)), rfl, by simp only [rsv, List.map_map]; rfl, by rw [List.length_map]; exact List.length_pos_iff.mpr h0, fun m hm hle => ?_⟩
    obtain ⟨v, h1, h2⟩ := List.mem_map.mp hm
    exact nx m ⟨v, h1, h2⟩ fun v hv => hle _ (List.mem_map.mpr ⟨v, hv, rfl⟩)
theorem w2_ok (h0 : ∃ v ∈ wait, ((szD v : Nat) : Int) = m) (hl : wait.length ≤ 1000000) (nx : ∀ r ∈ wait, ((szD r : Nat) : Int) = m → D.nx [s0, s1, some (.list (wait.map (rowD c))), some (.int m), some (rowD c r), s5, s6] ω) :
    w2 D [s0, s1, some (.list (wait.map (rowD c))), some (.int m), s4, s5, s6] ω := by
  have sl : 1000000 ≤ sizeLine := by decide
  unfold w2
  simp only [dAnd, dAndV, dAsg, dC, dCB, dCall, dCallX, dChain, dCons, dDrop, dErr1, dIf, dIfS, dIsi, dLst, dNext, dNil, dNot, dNotV, dOp, dOr, dOrV, dPar, dRet, dRetN, dRetS, dSeq, dSet, dSl, dTest, dTup, dVar, dgCons, dgName, dgNil, dgTup, dNeg, endsD, xcOf, dFz, startD, wipeD, List.getElem?_cons_zero, List.getElem?_cons_succ, List.set_cons_zero, List.set_cons_succ, List.map_cons, List.map_nil, List.cons_append, List.nil_append, List.length_cons, List.length_nil, List.replicate]
  refine ⟨_, rfl, by rw [List.length_map]; omega, fun i acc ω2 => acc = ((wait.take i).filter (fun v => decide (((szD v : Nat) : Int) = m))).map (rowD c) ∧ ω2 = ω, ⟨rfl, rfl⟩, ?_, ?_⟩
  · rintro i y acc ω2 hy ⟨rfl, rfl⟩ _
    rw [List.getElem?_map] at hy
    obtain ⟨v, h1, rfl⟩ := Option.map_eq_some_iff.mp hy
    simp only [dAnd, dAndV, dAsg, dC, dCB, dCall, dCallX, dChain, dCons, dDrop, dErr1, dIf, dIfS, dIsi, dLst, dNext, dNil, dNot, dNotV, dOp, dOr, dOrV, dPar, dRet, dRetN, dRetS, dSeq, dSet, dSl, dTest, dTup, dVar, dgCons, dgName, dgNil, dgTup, dNeg, endsD, xcOf, dFz, startD, wipeD, List.getElem?_cons_zero, List.getElem?_cons_succ, List.set_cons_zero, List.set_cons_succ, List.map_cons, List.map_nil, List.cons_append, List.nil_append, List.length_cons, List.length_nil, List.replicate]
    refine ⟨_, rfl, ?_⟩
    show (if decide (((szD v : Nat) : Int) = m) = true then _ else _)
    rw [← tk_snoc h1, List.filter_append, List.map_append]
    by_cases hs : ((szD v : Nat) : Int) = m
    · rw [decide_eq_true hs]
      refine iteT ⟨?_, by trivial⟩
      simp [List.filter_cons, hs]
    · rw [decide_eq_false hs]
      refine iteF ⟨?_, by trivial⟩
      simp [List.filter_cons, hs]
  · rintro acc ω2 _ ⟨rfl, rfl⟩
    rw [List.length_map, List.take_length]
    obtain ⟨v, h1, h2⟩ := h0
    cases e : wait.filter (fun v => decide (((szD v : Nat) : Int) = m)) with
    | nil =>
      have : v ∈ wait.filter (fun v => decide (((szD v : Nat) : Int) = m)) := List.mem_filter.mpr ⟨h1, decide_eq_true h2⟩
      rw [e] at this
      cases this
    | cons r rest =>
      have hr : r ∈ wait.filter (fun v => decide (((szD v : Nat) : Int) = m)) := by rw [e]; exact List.mem_cons_self
      obtain ⟨g1, g2⟩ := List.mem_filter.mp hr
      exact ⟨_, by simp [atI, ixN], nx r g1 (of_decide_eq_true g2)⟩
theorem w5_ok (ef : ω f = some (.lst (found.map (rowD c)))) (vf : ∀ e ∈ found, isVal e = true) (lf : found.length ≤ 1000000) (vw : ∀ e ∈ wait ++ fresh, isVal e = true) (hl : (wait ++ fresh).length ≤ 1000000)
    (nx : D.nx [s0, some (refD f), some (.list (((wait ++ fresh).filter (isNew c found)).map (rowD c))), s3, s4, some (.list (fresh.map (rowD c))), s6] ω) :
    w5 D [s0, some (refD f), some (.list (wait.map (rowD c))), s3, s4, some (.list (fresh.map (rowD c))), s6] ω := by
  have sl : 1000000 ≤ sizeLine := by decide
  unfold w5
  simp only [dAnd, dAndV, dAsg, dC, dCB, dCall, dCallX, dChain, dCons, dDrop, dErr1, dIf, dIfS, dIsi, dLst, dNext, dNil, dNot, dNotV, dOp, dOr, dOrV, dPar, dRet, dRetN, dRetS, dSeq, dSet, dSl, dTest, dTup, dVar, dgCons, dgName, dgNil, dgTup, dNeg, endsD, xcOf, dFz, startD, wipeD, List.getElem?_cons_zero, List.getElem?_cons_succ, List.set_cons_zero, List.set_cons_succ, List.map_cons, List.map_nil, List.cons_append, List.nil_append, List.length_cons, List.length_nil, List.replicate]
  refine ⟨by rw [List.length_map, List.length_map, ← List.length_append]; omega, _, rfl, by rw [← List.map_append, List.length_map]; omega, fun i acc ω2 => acc = (((wait ++ fresh).take i).filter (isNew c found)).map (rowD c) ∧ ω2 = ω, ⟨rfl, rfl⟩, ?_, ?_⟩
  · rintro i y acc ω2 hy ⟨rfl, rfl⟩ _
    rw [← List.map_append, List.getElem?_map] at hy
    obtain ⟨v, h1, rfl⟩ := Option.map_eq_some_iff.mp hy
    simp only [dAnd, dAndV, dAsg, dC, dCB, dCall, dCallX, dChain, dCons, dDrop, dErr1, dIf, dIfS, dIsi, dLst, dNext, dNil, dNot, dNotV, dOp, dOr, dOrV, dPar, dRet, dRetN, dRetS, dSeq, dSet, dSl, dTest, dTup, dVar, dgCons, dgName, dgNil, dgTup, dNeg, endsD, xcOf, dFz, startD, wipeD, List.getElem?_cons_zero, List.getElem?_cons_succ, List.set_cons_zero, List.set_cons_succ, List.map_cons, List.map_nil, List.cons_append, List.nil_append, List.length_cons, List.length_nil, List.replicate]
    refine ⟨c, v, f, found, rfl, ef, vw v (List.mem_of_getElem? h1), vf, lf, ?_⟩
    show (if isNew c found v = true then _ else _)
    rw [← tk_snoc h1, List.filter_append, List.map_append]
    cases hs : isNew c found v with
    | true =>
      refine iteT ⟨?_, by trivial⟩
      simp [List.filter_cons, hs]
    | false =>
      refine iteF ⟨?_, by trivial⟩
      simp [List.filter_cons, hs]
  · rintro acc ω2 _ ⟨rfl, rfl⟩
    rw [← List.map_append, List.length_map, List.take_length]
    exact nx
theorem w4a_ok (co : CodeOk c) (ef : ω f = some (.lst (found.map (rowD c)))) (lf : found.length ≤ 1000000) (lr : isL r = true) (sr : (its r).length ≤ 1000000)
    (nx : ∀ p, ω p = none → D.nx [some (codeD c), some (refD f), s2, s3, some (rowD c r), some (refD p), s6] (updW ω p (.lst ((found.map fun e => appD r e).map (rowD c))))) :
    w4a D [some (codeD c), some (refD f), s2, s3, some (rowD c r), s5, s6] ω := by
  have sl : 1000000 ≤ sizeLine := by decide
  unfold w4a dLcO dioO
  simp only [dAnd, dAndV, dAsg, dC, dCB, dCall, dCallX, dChain, dCons, dDrop, dErr1, dIf, dIfS, dIsi, dLst, dNext, dNil, dNot, dNotV, dOp, dOr, dOrV, dPar, dRet, dRetN, dRetS, dSeq, dSet, dSl, dTest, dTup, dVar, dgCons, dgName, dgNil, dgTup, dNeg, endsD, xcOf, dFz, startD, wipeD, List.getElem?_cons_zero, List.getElem?_cons_succ, List.set_cons_zero, List.set_cons_succ, List.map_cons, List.map_nil, List.cons_append, List.nil_append, List.length_cons, List.length_nil, List.replicate]
  refine ⟨f, _, rfl, ef, by rw [List.length_map]; omega, fun i acc ω2 => acc = (found.take i).map (fun e => rowD c (appD r e)) ∧ ω2 = ω, ⟨rfl, rfl⟩, fun i acc ω2 h => by rw [h.2]; exact ef, ?_, ?_⟩
  · rintro i y acc ω2 hy ⟨rfl, rfl⟩ _
    rw [List.getElem?_map] at hy
    obtain ⟨v, h1, rfl⟩ := Option.map_eq_some_iff.mp hy
    simp only [dAnd, dAndV, dAsg, dC, dCB, dCall, dCallX, dChain, dCons, dDrop, dErr1, dIf, dIfS, dIsi, dLst, dNext, dNil, dNot, dNotV, dOp, dOr, dOrV, dPar, dRet, dRetN, dRetS, dSeq, dSet, dSl, dTest, dTup, dVar, dgCons, dgName, dgNil, dgTup, dNeg, endsD, xcOf, dFz, startD, wipeD, List.getElem?_cons_zero, List.getElem?_cons_succ, List.set_cons_zero, List.set_cons_succ, List.map_cons, List.map_nil, List.cons_append, List.nil_append, List.length_cons, List.length_nil, List.replicate]
    unfold dYes
    simp only [dAnd, dAndV, dAsg, dC, dCB, dCall, dCallX, dChain, dCons, dDrop, dErr1, dIf, dIfS, dIsi, dLst, dNext, dNil, dNot, dNotV, dOp, dOr, dOrV, dPar, dRet, dRetN, dRetS, dSeq, dSet, dSl, dTest, dTup, dVar, dgCons, dgName, dgNil, dgTup, dNeg, endsD, xcOf, dFz, startD, wipeD, List.getElem?_cons_zero, List.getElem?_cons_succ, List.set_cons_zero, List.set_cons_succ, List.map_cons, List.map_nil, List.cons_append, List.nil_append, List.length_cons, List.length_nil, List.replicate]
    simp only [if_true]
    refine ⟨c, r, v, rfl, co, lr, sr, ?_⟩
    rw [← tk_snoc h1, List.map_append]
    exact ⟨rfl, by trivial⟩
  · rintro acc ω2 _ ⟨rfl, rfl⟩ p hp
    rw [List.length_map, List.take_length]
    have := nx p hp
    rw [List.map_map] at this
    exact this
theorem w4b_ok (co : CodeOk c) (ef : ω f = some (.lst (found.map (rowD c)))) (lf : found.length ≤ 1000000) (sf : ∀ e ∈ found, (its e).length ≤ 1000000 ∧ isVal e = true) (hu : ∀ p m, ω p = none → rsv (updW ω p m) u = .list (A.map (rowD c))) (la : A.length ≤ 1000000)
    (nx : ∀ p m, ω p = none → D.nx [some (codeD c), some (refD f), s2, s3, some (rowD c r), some (.list ((A ++ (found.filter isL).map fun e => appD e r).map (rowD c))), s6] (updW ω p m)) :
    w4b D [some (codeD c), some (refD f), s2, s3, some (rowD c r), some u, s6] ω := by
  have sl : 2000000 ≤ sizeLine := by decide
  unfold w4b dLcO dioO
  simp only [dAnd, dAndV, dAsg, dC, dCB, dCall, dCallX, dChain, dCons, dDrop, dErr1, dIf, dIfS, dIsi, dLst, dNext, dNil, dNot, dNotV, dOp, dOr, dOrV, dPar, dRet, dRetN, dRetS, dSeq, dSet, dSl, dTest, dTup, dVar, dgCons, dgName, dgNil, dgTup, dNeg, endsD, xcOf, dFz, startD, wipeD, List.getElem?_cons_zero, List.getElem?_cons_succ, List.set_cons_zero, List.set_cons_succ, List.map_cons, List.map_nil, List.cons_append, List.nil_append, List.length_cons, List.length_nil, List.replicate]
  refine ⟨f, _, rfl, ef, by rw [List.length_map]; omega, fun i acc ω2 => acc = ((found.take i).filter isL).map (fun e => rowD c (appD e r)) ∧ ω2 = ω, ⟨rfl, rfl⟩, fun i acc ω2 h => by rw [h.2]; exact ef, ?_, ?_⟩
  · rintro i y acc ω2 hy ⟨rfl, rfl⟩ _
    rw [List.getElem?_map] at hy
    obtain ⟨v, h1, rfl⟩ := Option.map_eq_some_iff.mp hy
    have sv := sf v (List.mem_of_getElem? h1)
    simp only [dAnd, dAndV, dAsg, dC, dCB, dCall, dCallX, dChain, dCons, dDrop, dErr1, dIf, dIfS, dIsi, dLst, dNext, dNil, dNot, dNotV, dOp, dOr, dOrV, dPar, dRet, dRetN, dRetS, dSeq, dSet, dSl, dTest, dTup, dVar, dgCons, dgName, dgNil, dgTup, dNeg, endsD, xcOf, dFz, startD, wipeD, List.getElem?_cons_zero, List.getElem?_cons_succ, List.set_cons_zero, List.set_cons_succ, List.map_cons, List.map_nil, List.cons_append, List.nil_append, List.length_cons, List.length_nil, List.replicate]
    refine ⟨v, rfl, ?_⟩
    dsimp only
    rw [rsv_val sv.2, ← tk_snoc h1, List.filter_append, List.map_append]
    refine ⟨isi_val sv.2, ?_⟩
    cases hs : isL v with
    | true =>
      refine iteT ⟨c, v, r, rfl, co, hs, sv.1, ?_, by trivial⟩
      simp [List.filter_cons, hs]
    | false =>
      refine iteF ⟨?_, by trivial⟩
      simp [List.filter_cons, hs]
  · rintro acc ω2 _ ⟨rfl, rfl⟩ p hp
    rw [List.length_map, List.take_length]
    have lg := List.length_filter_le isL found
    unfold addD
    rw [hu p _ hp, rsv_cell updW_same]
    refine ⟨by simp only [List.length_map]; omega, ?_⟩
    have := nx p (.lst ((found.filter isL).map (fun e => rowD c (appD e r)))) hp
    rw [List.map_append, List.map_map] at this
    exact this
end
theorem rows_lay {c : List Nd} : ∀ {wait : List PyData}, (∀ v ∈ wait, isVal v = true ∧ v.depth ≤ 40) → PyData.canLayAll0 (wait.map (rowD c)) = true ∧ PyData.depthAll (wait.map (rowD c)) ≤ 41
  | [], _ => ⟨rfl, by simp [PyData.depthAll]⟩
  | v :: wait, h => by
    obtain ⟨h1, h2⟩ := rows_lay (c := c) fun x hx => h x (List.mem_cons_of_mem _ hx)
    obtain ⟨v1, v2⟩ := h v List.mem_cons_self
    have l1 := fine_lay _ (val_fine _ v1)
    obtain ⟨b1, b2⟩ := bools_lay (vt c v)
    simp only [List.map_cons, PyData.canLayAll0, PyData.depthAll, rowD, bsD, PyData.canLay0, PyData.depth, l1, h1, b1, b2, Bool.and_self, true_and]
    omega
theorem rows_shaped {c : List Nd} {wait : List PyData} (h : ∀ v ∈ wait, isVal v = true ∧ v.depth ≤ 40) : SeqAt.shaped (.list (wait.map (rowD c))) = true := by
  obtain ⟨h1, h2⟩ := rows_lay (c := c) h
  have e : (PyData.list (wait.map (rowD c))).depth ≤ 64 := by simp only [PyData.depth]; omega
  exact Bool.and_eq_true_iff.mpr ⟨by simp only [PyData.canLay0]; exact h1, decide_eq_true e⟩
theorem eqv_nilR (W : List PyData) : PyData.eqv (.list W) (.list []) = W.isEmpty := by
  cases W with
  | nil => simp [PyData.eqv, PyData.eqvAll]
  | cons n p => simp [PyData.eqv, PyData.eqvAll]
section
variable {c : List Nd} {f : Addr} {found wait : List PyData} {r : PyData} {ω : Wd} {D : DEnds} {s0 s1 s2 s3 s4 s5 s6 : Option PyData}
theorem wtest {q : Bool → Wd → Prop} {x : DXK} (h : ∀ v ∈ wait, isVal v = true ∧ v.depth ≤ 40) (z : q (!wait.isEmpty) ω) : dTest (dOp neD (dVar 2) (dLst dNil)) [s0, s1, some (.list (wait.map (rowD c))), s3, s4, s5, s6] ω q x := by
  simp only [dAnd, dAndV, dAsg, dC, dCB, dCall, dCallX, dChain, dCons, dDrop, dErr1, dIf, dIfS, dIsi, dLst, dNext, dNil, dNot, dNotV, dOp, dOr, dOrV, dPar, dRet, dRetN, dRetS, dSeq, dSet, dSl, dTest, dTup, dVar, dgCons, dgName, dgNil, dgTup, dNeg, endsD, xcOf, dFz, startD, wipeD, List.getElem?_cons_zero, List.getElem?_cons_succ, List.set_cons_zero, List.set_cons_succ, List.map_cons, List.map_nil, List.cons_append, List.nil_append, List.length_cons, List.length_nil, List.replicate]
  refine ⟨Nat.zero_le _, _, _, .inl rfl, .inl rfl, rows_shaped h, by decide +kernel, ?_⟩
  rw [eqv_nilR, List.isEmpty_map]
  exact z
theorem w3_ok (nx : D.nx [s0, s1, s2, s3, s4, some (.list []), s6] ω) : w3 D [s0, s1, s2, s3, s4, s5, s6] ω := by
  unfold w3
  simp only [dAnd, dAndV, dAsg, dC, dCB, dCall, dCallX, dChain, dCons, dDrop, dErr1, dIf, dIfS, dIsi, dLst, dNext, dNil, dNot, dNotV, dOp, dOr, dOrV, dPar, dRet, dRetN, dRetS, dSeq, dSet, dSl, dTest, dTup, dVar, dgCons, dgName, dgNil, dgTup, dNeg, endsD, xcOf, dFz, startD, wipeD, List.getElem?_cons_zero, List.getElem?_cons_succ, List.set_cons_zero, List.set_cons_succ, List.map_cons, List.map_nil, List.cons_append, List.nil_append, List.length_cons, List.length_nil, List.replicate]
  exact ⟨Nat.zero_le _, nx⟩
theorem w4_ok (co : CodeOk c) (new : isNew c found r = true) (ef : ω f = some (.lst (found.map (rowD c)))) (sf : ∀ e ∈ found, (its e).length ≤ 1000000 ∧ isVal e = true) (lf : found.length ≤ 900000) (sr : (its r).length ≤ 1000000 ∧ isVal r = true)
    (nx : ∀ ω2, (∀ a m, a ≠ f → ω a = some m → ω2 a = some m) → ω2 f = some (.lst ((found ++ [r]).map (rowD c))) → D.nx [some (codeD c), some (refD f), s2, s3, some (rowD c r), some (.list ((freshOf (found ++ [r]) r).map (rowD c))), s6] ω2) :
    w4 D [some (codeD c), some (refD f), s2, s3, some (rowD c r), some (.list []), s6] ω := by
  have sl : 1000000 ≤ sizeLine := by decide
  have sf2 : ∀ e ∈ found ++ [r], (its e).length ≤ 1000000 ∧ isVal e = true := fun e he => by
    rcases List.mem_append.mp he with z | z
    · exact sf e z
    · obtain rfl := List.mem_singleton.mp z; exact sr
  have l2 : (found ++ [r]).length ≤ 1000000 := by rw [List.length_append, List.length_singleton]; omega
  have keep : ∀ a m, a ≠ f → ω a = some m → updW ω f (.lst ((found ++ [r]).map (rowD c))) a = some m := fun a m n e => by rw [updW_ne n]; exact e
  have ef2 : updW ω f (.lst ((found ++ [r]).map (rowD c))) f = some (.lst ((found ++ [r]).map (rowD c))) := updW_same
  unfold w4
  simp only [dAnd, dAndV, dAsg, dC, dCB, dCall, dCallX, dChain, dCons, dDrop, dErr1, dIf, dIfS, dIsi, dLst, dNext, dNil, dNot, dNotV, dOp, dOr, dOrV, dPar, dRet, dRetN, dRetS, dSeq, dSet, dSl, dTest, dTup, dVar, dgCons, dgName, dgNil, dgTup, dNeg, endsD, xcOf, dFz, startD, wipeD, List.getElem?_cons_zero, List.getElem?_cons_succ, List.set_cons_zero, List.set_cons_succ, List.map_cons, List.map_nil, List.cons_append, List.nil_append, List.length_cons, List.length_nil, List.replicate]
  refine ⟨c, r, f, found, rfl, ef, sr.2, fun e he => (sf e he).2, by omega, ?_⟩
  rw [new]
  refine iteT ⟨f, _, rfl, ef, _, ef, by rw [List.length_map]; omega, ?_⟩
  rw [show found.map (rowD c) ++ [rowD c r] = (found ++ [r]).map (rowD c) by rw [List.map_append]; rfl]
  generalize updW ω f (.lst ((found ++ [r]).map (rowD c))) = ω1 at keep ef2
  refine ⟨r, rfl, ?_⟩
  dsimp only
  rw [rsv_val sr.2]
  refine ⟨isi_val sr.2, ?_⟩
  cases hl : isL r with
  | true =>
    refine iteT (w4a_ok co ef2 l2 hl sr.1 fun p hp => ?_)
    have nf : f ≠ p := fun e => by rw [← e, ef2] at hp; cases hp
    refine w4b_ok (A := (found ++ [r]).map fun e => appD r e) co (by rw [updW_ne nf]; exact ef2) l2 sf2 (fun p2 m2 h2 => ?_) (by rw [List.length_map]; exact l2) fun p2 m2 h2 => ?_
    · have np : p ≠ p2 := fun e => by rw [← e, updW_same] at h2; cases h2
      exact rsv_cell (by rw [updW_ne np, updW_same])
    · have nf2 : f ≠ p2 := fun e => by rw [← e, updW_ne nf, ef2] at h2; cases h2
      have e1 : freshOf (found ++ [r]) r = ((found ++ [r]).map fun e => appD r e) ++ ((found ++ [r]).filter isL).map fun e => appD e r := by unfold freshOf; rw [if_pos hl]
      rw [← e1]
      refine nx _ (fun a m n e => ?_) (by rw [updW_ne nf2, updW_ne nf]; exact ef2)
      have h3 := keep a m n e
      have n1 : a ≠ p := fun z => by rw [z, hp] at h3; cases h3
      have h4 : updW ω1 p (.lst (((found ++ [r]).map fun e => appD r e).map (rowD c))) a = some m := by rw [updW_ne n1]; exact h3
      have n2 : a ≠ p2 := fun z => by rw [z, h2] at h4; cases h4
      rw [updW_ne n2]
      exact h4
  | false =>
    refine iteF (w4b_ok (A := []) co ef2 l2 sf2 (fun p2 m2 h2 => rfl) (by simp) fun p2 m2 h2 => ?_)
    have nf2 : f ≠ p2 := fun e => by rw [← e, ef2] at h2; cases h2
    have e1 : freshOf (found ++ [r]) r = [] ++ ((found ++ [r]).filter isL).map fun e => appD e r := by unfold freshOf; rw [if_neg (by rw [hl]; simp)]
    rw [← e1]
    refine nx _ (fun a m n e => ?_) (by rw [updW_ne nf2]; exact ef2)
    have h3 := keep a m n e
    have n1 : a ≠ p2 := fun z => by rw [z, h2] at h3; cases h3
    rw [updW_ne n1]
    exact h3
end
theorem firsts_its {mx : Nat} {d : PyData} (h : d ∈ firsts mx) : its d = [] := by
  unfold firsts at h
  rcases List.mem_append.mp h with h | h
  · rcases List.mem_cons.mp h with rfl | h
    · rfl
    · obtain rfl := List.mem_singleton.mp h
      rfl
  · obtain ⟨n, _, rfl⟩ := List.mem_map.mp h
    rfl
def dsLeastR : DSp := fun ts ω q _ => ∃ c, ts = [codeD c] ∧ CodeOk c ∧ c.length ≤ 1000 ∧ (∀ nd ∈ c, mxOk 62 nd) ∧ nLs c ≤ 5 ∧ ∀ mx found, mx ≤ 62 → (∀ nd ∈ c, mxOk mx nd) → LR c (firsts mx) found [] → LB (firsts mx) (mx + 2) found [] → q (.list (found.map (rowD c))) ω
section
variable {P : Program} {w : World} {K : PySem.W.Frag} {mg : Str → Option Value} {base : Heap} {C : Addr}
theorem dd_leastR (h : Has K mg "least_rows" sLeastR) (B : Bi mg) (D_first_rows : Dfn P w K mg base CX0 6 "first_rows" ["code"] (spD K dsFirsts)) (D_longer_row : Dfn P w K mg base CX0 4 "longer_row" ["code", "one", "other"] (spD K dsLongerR)) (D_is_new : Dfn P w K mg base CX0 1 "is_new" ["row", "found"] (spD K dsIsNew)) :
    Dfn P w K mg base CX0 7 "least_rows" ["code"] (spD K dsLeastR) := by
  refine dfnD (k := 6) h B scLeastR (fun _ _ _ _ _ _ us hl => match us, hl with | [_], _ => rfl) (fun ts ω q xx h => ?_) (fun f cv A out s H E c => ⟨_, (dss_cons (ds_set (i := 1) scLeastR.nd rfl (Or.inr rfl) (de_lstO da_nil))
    (dss_cons (ds_set (i := 2) scLeastR.nd rfl (Or.inl rfl) (de_d D_first_rows c (by omega) (by rfl) (da_cons (de_var (pv 0)) da_nil)))
    (dss_cons (ds_while PassesOwn.never (dt_cmp (do_ne rfl c.r.units) (de_var (pv 2)) (de_lst da_nil) (nomark _))
    (dss_cons (ds_set (i := 3) scLeastR.nd rfl (Or.inr rfl) (de_callB (dc_min rfl rfl) (by rfl) c.b.min (by decide +kernel) (da_cons (de_lc (own := [("row", 4)]) (gd := (dgName 4)) (is := [4]) (tt := dYes) rfl scLeastR.nd (di_data rfl (de_var (pv 2))) (blkOk_by (own := [("row", 4)]) (N := ["code", "found", "waiting", "least", "row", "fresh", "each"]) (sc := defScope sLeastR) (by decide +kernel)) (fun _ _ _ _ _ => (dg_name (pg_name (i := 4) scLeastR.nd rfl (Or.inl rfl)))) (fun _ _ _ _ _ => dts_nil) (fun _ _ _ _ _ => (de_ix rfl (de_var (pv 4)) de_int (fun _ _ => rfl)))) da_nil)))
    (dss_cons (ds_set (i := 4) scLeastR.nd rfl (Or.inr rfl) (de_ix rfl (de_lc (own := [("each", 6)]) (gd := (dgName 6)) (is := [6]) rfl scLeastR.nd (di_data rfl (de_var (pv 2))) (blkOk_by (own := [("each", 6)]) (N := ["code", "found", "waiting", "least", "row", "fresh", "each"]) (sc := defScope sLeastR) (by decide +kernel)) (fun _ _ _ _ _ => (dg_name (pg_name (i := 6) scLeastR.nd rfl (Or.inl rfl)))) (fun _ _ _ _ _ => dts_one (dt_cmp (do_eq rfl c.r.units) (de_ix rfl (de_var (pv 6)) de_int (fun _ _ => rfl)) (de_var (pv 3)) (nomark _))) (fun _ _ _ _ _ => (de_var (pv 6)))) de_int (fun _ _ => rfl)))
    (dss_cons (ds_set (i := 5) scLeastR.nd rfl (Or.inl rfl) (de_lst da_nil))
    (dss_cons (ds_if (dt_val (de_d D_is_new c (by omega) (by rfl) (da_cons (de_var (pv 4)) (da_cons (de_var (pv 1)) da_nil)))) (dss_cons (ds_expr (de_append rfl (de_var (pv 1)) (de_var (pv 4))))
    (dss_cons (ds_if (dt_val (de_isi (T := "list") rfl kit_list (by rfl) c.b.isinstance (de_ix rfl (de_var (pv 4)) de_int (fun _ _ => rfl)) (pe_bltn (v := .ty "list") (by rfl) c.b.list (by decide +kernel) rfl))) (dss_one (ds_setLcO (i := 5) (own := [("each", 6)]) (gd := (dgName 6)) (is := [6]) (tt := dYes) rfl scLeastR.nd rfl rfl (sw_true rfl rfl rfl (by decide +kernel)) (dio_o rfl (de_var (pv 1))) (blkOk_by (own := [("each", 6)]) (N := ["code", "found", "waiting", "least", "row", "fresh", "each"]) (sc := defScope sLeastR) (by decide +kernel)) (fun _ _ _ _ _ => (dg_name (pg_name (i := 6) scLeastR.nd rfl (Or.inl rfl)))) (fun _ _ _ _ _ => dts_nil) (fun _ _ _ _ _ => (de_d D_longer_row c (by omega) (by rfl) (da_cons (de_var (pv 0)) (da_cons (de_var (pv 4)) (da_cons (de_var (pv 6)) da_nil))))))) dss_nil)
    (dss_one (ds_set (i := 5) scLeastR.nd rfl (Or.inl rfl) (de_op (do_add rfl) (de_var (pv 5)) (de_lcO (own := [("each", 6)]) (gd := (dgName 6)) (is := [6]) rfl scLeastR.nd (dio_o rfl (de_var (pv 1))) (blkOk_by (own := [("each", 6)]) (N := ["code", "found", "waiting", "least", "row", "fresh", "each"]) (sc := defScope sLeastR) (by decide +kernel)) (fun _ _ _ _ _ => (dg_name (pg_name (i := 6) scLeastR.nd rfl (Or.inl rfl)))) (fun _ _ _ _ _ => dts_one (dt_val (de_isi (T := "list") rfl kit_list (by rfl) c.b.isinstance (de_ix rfl (de_var (pv 6)) de_int (fun _ _ => rfl)) (pe_bltn (v := .ty "list") (by rfl) c.b.list (by decide +kernel) rfl)))) (fun _ _ _ _ _ => (de_d D_longer_row c (by omega) (by rfl) (da_cons (de_var (pv 0)) (da_cons (de_var (pv 6)) (da_cons (de_var (pv 4)) da_nil))))))))))) dss_nil)
    (dss_one (ds_setLc (i := 2) (own := [("each", 6)]) (gd := (dgName 6)) (is := [6]) rfl scLeastR.nd rfl rfl (sw_true rfl rfl rfl (by decide +kernel)) (di_data rfl (de_op (do_add rfl) (de_var (pv 2)) (de_var (pv 5)))) (blkOk_by (own := [("each", 6)]) (N := ["code", "found", "waiting", "least", "row", "fresh", "each"]) (sc := defScope sLeastR) (by decide +kernel)) (fun _ _ _ _ _ => (dg_name (pg_name (i := 6) scLeastR.nd rfl (Or.inl rfl)))) (fun _ _ _ _ _ => dts_one (dt_val (de_d D_is_new c (by omega) (by rfl) (da_cons (de_var (pv 6)) (da_cons (de_var (pv 1)) da_nil))))) (fun _ _ _ _ _ => (de_var (pv 6))))))))))
    (dss_one (ds_retS (de_frz (pv 1))))))), fun ts ω q xx z => ?_⟩)
  · obtain ⟨c, rfl, _⟩ := h
    rfl
  obtain ⟨c, rfl, co, hl, hm, hn, z⟩ := z
  unfold dLstO
  simp only [dAnd, dAndV, dAsg, dC, dCB, dCall, dCallX, dChain, dCons, dDrop, dErr1, dIf, dIfS, dIsi, dLst, dNext, dNil, dNot, dNotV, dOp, dOr, dOrV, dPar, dRet, dRetN, dRetS, dSeq, dSet, dSl, dTest, dTup, dVar, dgCons, dgName, dgNil, dgTup, dNeg, endsD, xcOf, dFz, startD, wipeD, List.getElem?_cons_zero, List.getElem?_cons_succ, List.set_cons_zero, List.set_cons_succ, List.map_cons, List.map_nil, List.cons_append, List.nil_append, List.length_cons, List.length_nil, List.replicate]
  refine ⟨Nat.zero_le _, fun fa hfa => ?_⟩
  refine ⟨c, rfl, co, hl, hm, fun mx h62 ok => ?_⟩
  have p32 : 2 ^ nLs c ≤ 32 := Nat.pow_le_pow_right (by decide) hn (n := 2)
  have fl : (firsts mx).length = mx + 4 := by unfold firsts; simp
  have fF : ∀ d ∈ firsts mx, szD d ≤ mx + 2 ∧ (isL d = false → d.depth = 0) := fun d hd => ⟨(firsts_val hd).2.1, fun hl => by
    have := (firsts_val hd).1
    cases d with
    | list _ => cases hl
    | none => rfl
    | str _ => rfl
    | _ => simp [isVal] at this⟩
  refine ⟨fun m ρ ω' => ∃ found wait s3 s4 s5 s6, ρ = [some (codeD c), some (refD fa), some (.list (wait.map (rowD c))), s3, s4, s5, s6] ∧ ω' fa = some (.lst (found.map (rowD c))) ∧ (∀ a m, a ≠ fa → ω a = some m → ω' a = some m) ∧ LR c (firsts mx) found wait ∧ LB (firsts mx) (mx + 2) found wait ∧ m + found.length = (firsts mx).length + 2 ^ nLs c,
    ⟨_, [], firsts mx, none, none, none, none, rfl, updW_same, fun a m n e => by rw [updW_ne n]; exact e, LR.start fun d hd => (firsts_val hd).1, LB.start fun d hd => ⟨(firsts_val hd).2.1, (firsts_val hd).2.2, firsts_its hd⟩, rfl⟩, ?_⟩
  rintro m ρ ω' ⟨found, wait, s3, s4, s5, s6, rfl, ef, kp, lr, lb, hmN⟩
  have nl := lr.nl_le
  have fn := lr.len
  have ln : found.length ≤ 100 := by omega
  have lw : wait.length ≤ 20000 := by
    have h1 := lb.lenw
    have h2 : found.length * (found.length + 1) ≤ 100 * 101 := Nat.mul_le_mul (by omega) (by omega)
    omega
  have vw : ∀ v ∈ wait, isVal v = true ∧ v.depth ≤ 40 := fun v hv => ⟨lr.val v (.inr hv), by have := lb.depw v hv; omega⟩
  refine wtest vw ?_
  cases hw : wait with
  | nil =>
    subst hw
    refine iteF ?_
    refine ⟨fa, _, rfl, ef, ω, fun a m e => ?_, z mx found h62 ok lr lb⟩
    have n : a ≠ fa := fun z => by rw [z, hfa] at e; cases e
    rw [delW_ne n]
    exact kp a m n e
  | cons w0 rest =>
    rw [← hw]
    have ne : wait ≠ [] := by rw [hw]; simp
    rw [show (!wait.isEmpty) = true by rw [hw]; rfl]
    refine iteT ?_
    unfold dSeq
    refine w1_ok ne (by omega) fun m1 hm1 hle => ?_
    refine w2_ok hm1 (by omega) fun r hr hmr => ?_
    refine w3_ok ?_
    have hle2 : ∀ w ∈ wait, szD r ≤ szD w := fun w hw => by have := hle w hw; omega
    have sz6 : ∀ v, v ∈ found ∨ v ∈ wait → (its v).length ≤ 1000000 := fun v hv => by
      rcases hv with hv | hv
      · have := lb.lei v hv; omega
      · have := lb.leiw v hv; omega
    refine w4_ok co (lr.new r hr) ef (fun e he => ⟨sz6 e (.inl he), lr.val e (.inl he)⟩) (by omega) ⟨sz6 r (.inr hr), lr.val r (.inr hr)⟩ fun ω2 k2 ef2 => ?_
    have lr2 := lr.step hr hle2
    have lb2 := lb.step lr hr fF
    have fr := fresh_len (found ++ [r]) r
    rw [List.length_append, List.length_singleton] at fr
    have vfr : ∀ e ∈ wait ++ freshOf (found ++ [r]) r, isVal e = true := fun e he => by
      rcases List.mem_append.mp he with y | y
      · exact lr.val e (.inr y)
      · obtain ⟨a, b, ha, hb, hl, rfl, _⟩ := fresh_of (List.mem_append_right _ List.mem_cons_self) y
        exact val_app hl (lr2.val a (.inl ha)) (lr2.val b (.inl hb))
    refine w5_ok ef2 (fun e he => lr2.val e (.inl he)) (by rw [List.length_append, List.length_singleton]; omega) vfr (by rw [List.length_append]; omega) ?_
    have fn2 := lr2.len
    rw [List.length_append, List.length_singleton] at fn2
    refine ⟨m - 1, by omega, found ++ [r], nextW c found wait r, _, _, _, _, rfl, ef2, fun a m n e => k2 a m n (kp a m n e), lr2, lb2, ?_⟩
    rw [List.length_append, List.length_singleton]
    omega
end
end Tx

namespace Tx
open PySem PySem.Spec PyProof.Rows L2
/-! ## Shape: bool, least_beyond, least -/
/-- 0 self, 1 row -/
abbrev sSBool : Stmt := inClass (top 19) 15
theorem scSBool : FnScope ["self", "row"] ["self"] (defScope sSBool) := ⟨rfl, rfl, rfl, by decide +kernel, rfl, by decide +kernel, by decide +kernel⟩
/-- 0 self, 1 other, 2 found, 3 row -/
abbrev sSLeastB : Stmt := inClass (top 19) 18
theorem scSLeastB : FnScope ["self", "other", "found", "row"] ["self", "other"] (defScope sSLeastB) := ⟨rfl, rfl, rfl, by decide +kernel, rfl, by decide +kernel, by decide +kernel⟩
/-- 0 self -/
abbrev sSLeast : Stmt := inClass (top 19) 17
theorem scSLeast : FnScope ["self"] ["self"] (defScope sSLeast) := ⟨rfl, rfl, rfl, by decide +kernel, rfl, by decide +kernel, by decide +kernel⟩
/-- a shape that is not too large -/
structure Fits (s : Shp) : Prop where
  len : s.len ≤ 500
  mx : ∀ nd ∈ codeAt 0 s, mxOk 62 nd
  nls : nLs (codeAt 0 s) ≤ 3
theorem Fits.code {s : Shp} (h : Fits s) : CodeOk (codeAt 0 s) := s.ok (by have := h.len; omega)
theorem has_last {s : Shp} {v : PyData} (h : isVal v = true) : (vt (codeAt 0 s) v).getLastD false = has s v := by
  have ps := s.len_pos
  have hl := tr_len s v
  rw [vt_tr s v h, ← tr_last s v, List.getLastD_eq_getLast?, List.getLast?_eq_getElem?, List.getD_eq_getElem?_getD, hl]
theorem LR.has {s : Shp} {mx : Nat} {found : List PyData} (hx : ∀ nd ∈ codeAt 0 s, mxOk mx nd) (h : LR (codeAt 0 s) (firsts mx) found []) {d : PyData} (hd : isVal d = true) : ∃ v ∈ found, isVal v = true ∧ Tx.has s v = Tx.has s d ∧ szD v ≤ szD d := by
  obtain ⟨v, h1, h2, h3⟩ := h.met hx (szD d) d (Nat.le_refl _) hd
  have hv := h.val v (.inl h1)
  exact ⟨v, h1, hv, by rw [← has_last hv, ← has_last hd, h2.1], h3⟩
theorem firsts_len {mx : Nat} : (firsts mx).length = mx + 4 := by unfold firsts; simp
def Wants (s : Shp) (b : Bool) : Prop := (b = true → ∃ v, isVal v = true ∧ has s v = true) ∧ ∀ v, isVal v = true → has s v = true → b = true
def dsBoolS (C : Addr) : DSp := fun ts ω q _ => ∃ a dx s, ts = [refD a] ∧ ω a = some (shpM C dx (codeAt 0 s)) ∧ Fits s ∧ ∀ b, Wants s b → q (.bool b) ω
/-- the least value, or none -/
def LeastOf (s : Shp) (r : PyData) : Prop := (r = .tuple [] ∧ ∀ v, isVal v = true → has s v = false) ∨ ∃ d, r = .tuple [d] ∧ isVal d = true ∧ has s d = true ∧ d.depth ≤ 8 ∧ szD d ≤ 64 * 2 ^ 8 ∧ ∀ v, isVal v = true → has s v = true → szD d ≤ szD v
def dsLeastB (C : Addr) : DSp := fun ts ω q _ => ∃ a b dx dy s t, ts = [refD a, refD b] ∧ ω a = some (shpM C dx (codeAt 0 s)) ∧ ω b = some (shpM C dy (codeAt 0 t)) ∧ Fits (.less s t) ∧ ∀ r, LeastOf (.less s t) r → q r ω
def dsLeastS (C : Addr) : DSp := fun ts ω q _ => ∃ a dx s, ts = [refD a] ∧ ω a = some (shpM C dx (codeAt 0 s)) ∧ Fits (.less s .never) ∧ ∀ r, LeastOf s r → q r ω
section
variable {P : Program} {w : World} {K : PySem.W.Frag} {mg : Str → Option Value} {base : Heap} {C : Addr}
theorem m_sbool (xc : OS K mg C) (h : HasM K C "__bool__" "Shape.__bool__" sSBool) (B : Bi mg) (D_least_rows : Dfn P w K mg base CX0 7 "least_rows" ["code"] (spD K dsLeastR)) : Mfn P w K mg base CX0 8 C "__bool__" ["self"] (spD K (dsBoolS C)) := by
  refine mfnD (k := 7) h B scSBool (fun _ _ _ _ _ _ us hl => match us, hl with | [_], _ => rfl) (fun ts ω q xx h => ?_) (fun f cv A out s H E c => ⟨_, (dss_one (ds_ret (de_callB (dc_any rfl rfl) (by rfl) c.b.any (by decide +kernel) (da_cons (de_lc (own := [("row", 1)]) (gd := (dgName 1)) (is := [1]) (tt := dYes) rfl scSBool.nd (di_data rfl (de_d D_least_rows c (by omega) (by rfl) (da_cons (de_fld rfl (de_var (pv 0))) da_nil))) (blkOk_by (own := [("row", 1)]) (N := ["self", "row"]) (sc := defScope sSBool) (by decide +kernel)) (fun _ _ _ _ _ => (dg_name (pg_name (i := 1) scSBool.nd rfl (Or.inl rfl)))) (fun _ _ _ _ _ => dts_nil) (fun _ _ _ _ _ => (de_ix rfl (de_ix rfl (de_var (pv 1)) de_int (fun _ _ => rfl)) (de_neg de_int) (fun _ _ => rfl)))) da_nil)))), fun ts ω q xx z => ?_⟩)
  · obtain ⟨a, dx, s, rfl, _⟩ := h
    rfl
  obtain ⟨a, dx, s, rfl, ea, fi, z⟩ := z
  have sl : 1000000 ≤ sizeLine := by decide
  have n5 := fi.nls
  unfold dRet dFld
  simp only [dAnd, dAndV, dAsg, dC, dCB, dCall, dCallX, dChain, dCons, dDrop, dErr1, dIf, dIfS, dIsi, dLst, dNext, dNil, dNot, dNotV, dOp, dOr, dOrV, dPar, dRet, dRetN, dRetS, dSeq, dSet, dSl, dTest, dTup, dVar, dgCons, dgName, dgNil, dgTup, dNeg, endsD, xcOf, dFz, startD, wipeD, List.getElem?_cons_zero, List.getElem?_cons_succ, List.set_cons_zero, List.set_cons_succ, List.map_cons, List.map_nil, List.cons_append, List.nil_append, List.length_cons, List.length_nil, List.replicate]
  refine ⟨a, C, dx, _, _, rfl, ea, xc.cd.cl, xc.na, rfl, ?_⟩
  refine ⟨codeAt 0 s, rfl, fi.code, by rw [codeAt_len]; have := fi.len; omega, fi.mx, by omega, fun mx found h62 ok lr lb => ?_⟩
  have fl := lr.len
  rw [firsts_len] at fl
  have p8 : 2 ^ nLs (codeAt 0 s) ≤ 8 := Nat.pow_le_pow_right (by decide) n5 (n := 2)
  refine ⟨_, rfl, by rw [List.length_map]; omega, fun i acc ω2 => acc = (found.take i).map (fun v => PyData.bool (has s v)) ∧ ω2 = ω, ⟨rfl, rfl⟩, ?_, ?_⟩
  · rintro i y acc ω2 hy ⟨rfl, rfl⟩ _
    rw [List.getElem?_map] at hy
    obtain ⟨v, h1, rfl⟩ := Option.map_eq_some_iff.mp hy
    have hv := lr.val v (.inl (List.mem_of_getElem? h1))
    simp only [dAnd, dAndV, dAsg, dC, dCB, dCall, dCallX, dChain, dCons, dDrop, dErr1, dIf, dIfS, dIsi, dLst, dNext, dNil, dNot, dNotV, dOp, dOr, dOrV, dPar, dRet, dRetN, dRetS, dSeq, dSet, dSl, dTest, dTup, dVar, dgCons, dgName, dgNil, dgTup, dNeg, endsD, xcOf, dFz, startD, wipeD, List.getElem?_cons_zero, List.getElem?_cons_succ, List.set_cons_zero, List.set_cons_succ, List.map_cons, List.map_nil, List.cons_append, List.nil_append, List.length_cons, List.length_nil, List.replicate]
    unfold dYes
    simp only [dAnd, dAndV, dAsg, dC, dCB, dCall, dCallX, dChain, dCons, dDrop, dErr1, dIf, dIfS, dIsi, dLst, dNext, dNil, dNot, dNotV, dOp, dOr, dOrV, dPar, dRet, dRetN, dRetS, dSeq, dSet, dSl, dTest, dTup, dVar, dgCons, dgName, dgNil, dgTup, dNeg, endsD, xcOf, dFz, startD, wipeD, List.getElem?_cons_zero, List.getElem?_cons_succ, List.set_cons_zero, List.set_cons_succ, List.map_cons, List.map_nil, List.cons_append, List.nil_append, List.length_cons, List.length_nil, List.replicate]
    simp only [if_true]
    refine ⟨_, rfl, ⟨_, told_last (by rw [vt_len, codeAt_len]; exact s.len_pos), ?_⟩⟩
    rw [has_last hv, ← tk_snoc h1, List.map_append]
    exact ⟨rfl, by trivial⟩
  · rintro acc ω2 _ ⟨rfl, rfl⟩
    rw [List.length_map, List.take_length]
    refine ⟨_, found.map (has s), rfl, by simp only [rsv, List.map_map]; rfl, ?_⟩
    rw [List.any_map]
    refine z _ ⟨fun hb => ?_, fun v hv hs => ?_⟩
    · obtain ⟨v, h1, h2⟩ := List.any_eq_true.mp hb
      exact ⟨v, lr.val v (.inl h1), h2⟩
    · obtain ⟨w, h1, _, h2, _⟩ := lr.has ok hv
      exact List.any_eq_true.mpr ⟨w, h1, h2.trans hs⟩
theorem m_leastB (xc : OS K mg C) (h : HasM K C "least_beyond" "Shape.least_beyond" sSLeastB) (B : Bi mg) (D_joint : Dfn P w K mg base CX0 2 "joint" ["word", "one", "other"] (spD K dsJoint)) (D_least_rows : Dfn P w K mg base CX0 7 "least_rows" ["code"] (spD K dsLeastR)) (D_copied : Dfn P w K mg base CX0 30 "copied" ["value"] (spD K (dsCopied 30))) :
    Mfn P w K mg base CX0 31 C "least_beyond" ["self", "other"] (spD K (dsLeastB C)) := by
  refine mfnD (k := 30) h B scSLeastB (fun _ _ _ _ _ _ us hl => match us, hl with | [_, _], _ => rfl) (fun ts ω q xx h => ?_) (fun f cv A out s H E c => ⟨_, (dss_cons (ds_setLc (i := 2) (own := [("row", 3)]) (gd := (dgName 3)) (is := [3]) rfl scSLeastB.nd rfl rfl (sw_true rfl rfl rfl (by decide +kernel)) (di_data rfl (de_d D_least_rows c (by omega) (by rfl) (da_cons (de_d D_joint c (by omega) (by rfl) (da_cons de_str (da_cons (de_fld rfl (de_var (pv 0))) (da_cons (de_fld rfl (de_var (pv 1))) da_nil)))) da_nil))) (blkOk_by (own := [("row", 3)]) (N := ["self", "other", "found", "row"]) (sc := defScope sSLeastB) (by decide +kernel)) (fun _ _ _ _ _ => (dg_name (pg_name (i := 3) scSLeastB.nd rfl (Or.inl rfl)))) (fun _ _ _ _ _ => dts_one (dt_val (de_ix rfl (de_ix rfl (de_var (pv 3)) de_int (fun _ _ => rfl)) (de_neg de_int) (fun _ _ => rfl)))) (fun _ _ _ _ _ => (de_ix rfl (de_var (pv 3)) de_int (fun _ _ => rfl))))
    (dss_one (ds_ret (de_if (dt_cmp (do_ne rfl c.r.units) (de_var (pv 2)) (de_lst da_nil) (nomark _)) (de_tup (da_cons (de_fz (de_d D_copied c (by omega) (by rfl) (da_cons (de_ix rfl (de_var (pv 2)) de_int (fun _ _ => rfl)) da_nil))) da_nil)) (de_tup da_nil))))), fun ts ω q xx z => ?_⟩)
  · obtain ⟨a, b, dx, dy, s, t, rfl, _⟩ := h
    rfl
  obtain ⟨a, b, dx, dy, s, t, rfl, ea, eb, fi, z⟩ := z
  have sl : 1000000 ≤ sizeLine := by decide
  unfold dFld
  simp only [dAnd, dAndV, dAsg, dC, dCB, dCall, dCallX, dChain, dCons, dDrop, dErr1, dIf, dIfS, dIsi, dLst, dNext, dNil, dNot, dNotV, dOp, dOr, dOrV, dPar, dRet, dRetN, dRetS, dSeq, dSet, dSl, dTest, dTup, dVar, dgCons, dgName, dgNil, dgTup, dNeg, endsD, xcOf, dFz, startD, wipeD, List.getElem?_cons_zero, List.getElem?_cons_succ, List.set_cons_zero, List.set_cons_succ, List.map_cons, List.map_nil, List.cons_append, List.nil_append, List.length_cons, List.length_nil, List.replicate]
  have fln := fi.len
  simp only [Shp.len] at fln
  have n3 := fi.nls
  refine ⟨a, C, dx, _, _, rfl, ea, xc.cd.cl, xc.na, rfl, b, C, dy, _, _, rfl, eb, xc.cd.cl, xc.na, rfl, .less, s, t, rfl, by omega, by omega, codeAt 0 (.less s t), rfl, fi.code, by rw [codeAt_len]; have := fi.len; omega, fi.mx, by omega, fun mx found h62 ok lr lb => ?_⟩
  generalize Shp.less s t = u at fi z ok lr lb n3
  have fl := lr.len
  rw [firsts_len] at fl
  have p8 : 2 ^ nLs (codeAt 0 u) ≤ 8 := Nat.pow_le_pow_right (by decide) n3 (n := 2)
  have nl := lr.nl_le
  refine ⟨_, rfl, by rw [List.length_map]; omega, fun i acc ω2 => acc = (found.take i).filter (has u) ∧ ω2 = ω, ⟨rfl, rfl⟩, ?_, ?_⟩
  · rintro i y acc ω2 hy ⟨rfl, rfl⟩ _
    rw [List.getElem?_map] at hy
    obtain ⟨v, h1, rfl⟩ := Option.map_eq_some_iff.mp hy
    have hv := lr.val v (.inl (List.mem_of_getElem? h1))
    simp only [dAnd, dAndV, dAsg, dC, dCB, dCall, dCallX, dChain, dCons, dDrop, dErr1, dIf, dIfS, dIsi, dLst, dNext, dNil, dNot, dNotV, dOp, dOr, dOrV, dPar, dRet, dRetN, dRetS, dSeq, dSet, dSl, dTest, dTup, dVar, dgCons, dgName, dgNil, dgTup, dNeg, endsD, xcOf, dFz, startD, wipeD, List.getElem?_cons_zero, List.getElem?_cons_succ, List.set_cons_zero, List.set_cons_succ, List.map_cons, List.map_nil, List.cons_append, List.nil_append, List.length_cons, List.length_nil, List.replicate]
    refine ⟨_, rfl, ⟨_, told_last (by rw [vt_len, codeAt_len]; exact u.len_pos), ?_⟩⟩
    dsimp only
    rw [has_last hv, ← tk_snoc h1, List.filter_append]
    cases hs : has u v with
    | true =>
      refine iteT ⟨_, rfl, ?_, by trivial⟩
      simp [List.filter_cons, hs]
    | false =>
      refine iteF ⟨?_, by trivial⟩
      simp [List.filter_cons, hs]
  · rintro acc ω2 _ ⟨rfl, rfl⟩
    rw [List.length_map, List.take_length]
    have mem : ∀ d ∈ found.filter (has u), isVal d = true ∧ has u d = true ∧ d.depth ≤ 8 ∧ szD d ≤ 64 * 2 ^ 8 := fun d hd => by
      obtain ⟨h1, h2⟩ := List.mem_filter.mp hd
      refine ⟨lr.val d (.inl h1), h2, by have := lb.dep d h1; omega, Nat.le_trans (lb.sz d h1) ?_⟩
      exact Nat.mul_le_mul (by omega) (Nat.pow_le_pow_right (by decide) (by omega))
    have sh : SeqAt.shaped (.list (found.filter (has u))) = true := by
      have e1 : isVal (.list (found.filter (has u))) = true := by
        simp only [isVal]
        exact isValAll_iff.mpr fun d hd => (mem d hd).1
      have e2 : PyData.depthAll (found.filter (has u)) ≤ 8 := depthAll_le fun d hd => (mem d hd).2.2.1
      exact Bool.and_eq_true_iff.mpr ⟨fine_lay _ (val_fine _ e1), decide_eq_true (by simp only [PyData.depth]; omega)⟩
    have srt := lr.sort.filter (has u)
    have met : ∀ v, isVal v = true → has u v = true → ∃ w ∈ found.filter (has u), szD w ≤ szD v := fun v hv hs => by
      obtain ⟨w, h1, _, h2, h3⟩ := lr.has ok hv
      exact ⟨w, List.mem_filter.mpr ⟨h1, h2.trans hs⟩, h3⟩
    generalize found.filter (has u) = L at mem sh srt met
    refine ⟨Nat.zero_le _, _, _, .inl rfl, .inl rfl, sh, by decide +kernel, ?_⟩
    rw [eqv_nilR]
    cases L with
    | nil =>
      refine iteF ⟨Nat.zero_le _, z _ (.inl ⟨rfl, fun v hv => ?_⟩)⟩
      cases hs : has u v with
      | false => rfl
      | true =>
        obtain ⟨w, h1, _⟩ := met v hv hs
        cases h1
    | cons d rest =>
      obtain ⟨g1, g2, g3, g4⟩ := mem d List.mem_cons_self
      have h14 : szD d ≤ 1000000 := Nat.le_trans g4 (by decide)
      refine iteT ⟨d, by simp [atI, ixN], d, rfl, g1, by omega, h14, fun w ω' tm => ⟨d, ω2, tm.fz, by decide, z _ (.inr ⟨d, rfl, g1, g2, g3, g4, fun v hv hs => ?_⟩)⟩⟩
      obtain ⟨w, h1, h2⟩ := met v hv hs
      rcases List.mem_cons.mp h1 with rfl | h1
      · exact h2
      · have := (List.pairwise_cons.mp srt).1 w h1
        omega
theorem m_least (xc : OS K mg C) (h : HasM K C "least" "Shape.least" sSLeast) (B : Bi mg) (M_least_beyond : Mfn P w K mg base CX0 31 C "least_beyond" ["self", "other"] (spD K (dsLeastB C))) (K_never0 : Kfn P w K mg base CX0 3 C "never" ["cls"] [] (spD K (dsLeaf C .never))) :
    Mfn P w K mg base CX0 32 C "least" ["self"] (spD K (dsLeastS C)) := by
  refine mfnD (k := 31) h B scSLeast (fun _ _ _ _ _ _ us hl => match us, hl with | [_], _ => rfl) (fun ts ω q xx h => ?_) (fun f cv A out s H E c => ⟨_, (dss_one (ds_retS (de_meth rfl M_least_beyond xc.cd.cl c (by omega) px0 (de_var (pv 0)) (da_cons (de_kfn0 rfl (pe_gcl xc.cd.gC (by rfl)) K_never0 rd0 c (by omega) px0) da_nil)))), fun ts ω q xx z => ?_⟩)
  · obtain ⟨a, dx, s, rfl, _⟩ := h
    rfl
  obtain ⟨a, dx, s, rfl, ea, fi, z⟩ := z
  simp only [dAnd, dAndV, dAsg, dC, dCB, dCall, dCallX, dChain, dCons, dDrop, dErr1, dIf, dIfS, dIsi, dLst, dNext, dNil, dNot, dNotV, dOp, dOr, dOrV, dPar, dRet, dRetN, dRetS, dSeq, dSet, dSl, dTest, dTup, dVar, dgCons, dgName, dgNil, dgTup, dNeg, endsD, xcOf, dFz, startD, wipeD, List.getElem?_cons_zero, List.getElem?_cons_succ, List.set_cons_zero, List.set_cons_succ, List.map_cons, List.map_nil, List.cons_append, List.nil_append, List.length_cons, List.length_nil, List.replicate]
  have hi : isIns C "least_beyond" (shpM C dx (codeAt 0 s)) := ⟨rfl, rfl⟩
  refine ⟨a, _, rfl, ea, hi, ?_⟩
  refine ⟨rfl, fun m dm hm => ?_⟩
  have ne : a ≠ m := fun e => by rw [← e, ea] at hm; cases hm
  refine ⟨a, m, dx, dm, s, .never, rfl, by rw [updW_ne ne]; exact ea, updW_same, fi, fun r hr => ⟨ω, SubW.upd hm, z r ?_⟩⟩
  have e : ∀ v, has (.less s .never) v = has s v := fun v => by simp [has]
  rcases hr with ⟨h1, h2⟩ | ⟨d, h1, h2, h3, h4, h5, h6⟩
  · exact .inl ⟨h1, fun v hv => by rw [← e]; exact h2 v hv⟩
  · exact .inr ⟨d, h1, h2, by rw [← e]; exact h3, h4, h5, fun v hv hs => h6 v hv (by rw [e]; exact hs)⟩
end
end Tx

namespace Tx
open PySem PySem.Spec PyProof.Rows L2
/-! ## |= and &= of shapes; numbers of calls, plain -/
/-- 0 self, 1 other -/
abbrev sSIor : Stmt := inClass (top 19) 12
theorem scSIor : FnScope ["self", "other"] ["self", "other"] (defScope sSIor) := ⟨rfl, rfl, rfl, by decide +kernel, rfl, by decide +kernel, by decide +kernel⟩
/-- 0 self, 1 other -/
abbrev sSIand : Stmt := inClass (top 19) 13
theorem scSIand : FnScope ["self", "other"] ["self", "other"] (defScope sSIand) := ⟨rfl, rfl, rfl, by decide +kernel, rfl, by decide +kernel, by decide +kernel⟩
theorem nLs_app : ∀ (c e : List Nd), nLs (c ++ e) = nLs c + nLs e
  | [], e => by simp [nLs]
  | nd :: c, e => by
    have := nLs_app c e
    cases nd <;> simp only [List.cons_append, nLs, this] <;> omega
theorem nLs_code : ∀ (s : Shp) (o : Nat), nLs (codeAt o s) = s.nests
  | .every, _ => rfl
  | .never, _ => rfl
  | .nothing, _ => rfl
  | .texts _ _, _ => rfl
  | .lists s, o => by simp only [codeAt, nLs_app, nLs_code s, Shp.nests, nLs]
  | .nested s, o => by simp only [codeAt, nLs_app, nLs_code s, Shp.nests, nLs]
  | .not s, o => by simp only [codeAt, nLs_app, nLs_code s, Shp.nests, nLs, Nat.add_zero]
  | .or a b, o => by simp only [codeAt, nLs_app, nLs_code a, nLs_code b, Shp.nests, nLs, Nat.add_zero]
  | .and a b, o => by simp only [codeAt, nLs_app, nLs_code a, nLs_code b, Shp.nests, nLs, Nat.add_zero]
  | .less a b, o => by simp only [codeAt, nLs_app, nLs_code a, nLs_code b, Shp.nests, nLs, Nat.add_zero]
theorem len_many : ∀ s : Shp, s.len ≤ 2 * s.many
  | .every => by simp [Shp.len, Shp.many]
  | .never => by simp [Shp.len, Shp.many]
  | .nothing => by simp [Shp.len, Shp.many]
  | .texts _ _ => by simp [Shp.len, Shp.many]
  | .lists s => by have := len_many s; simp only [Shp.len, Shp.many]; omega
  | .nested s => by have := len_many s; simp only [Shp.len, Shp.many]; omega
  | .not s => by have := len_many s; simp only [Shp.len, Shp.many]; omega
  | .or a b => by have := len_many a; have := len_many b; simp only [Shp.len, Shp.many]; omega
  | .and a b => by have := len_many a; have := len_many b; simp only [Shp.len, Shp.many]; omega
  | .less a b => by have := len_many a; have := len_many b; simp only [Shp.len, Shp.many]; omega
theorem dep_many : ∀ s : Shp, s.dep < s.many
  | .every => by simp [Shp.dep, Shp.many]
  | .never => by simp [Shp.dep, Shp.many]
  | .nothing => by simp [Shp.dep, Shp.many]
  | .texts _ _ => by simp [Shp.dep, Shp.many]
  | .lists s => by have := dep_many s; simp only [Shp.dep, Shp.many]; omega
  | .nested s => by have := dep_many s; simp only [Shp.dep, Shp.many]; omega
  | .not s => by have := dep_many s; simp only [Shp.dep, Shp.many]; omega
  | .or a b => by have := dep_many a; have := dep_many b; simp only [Shp.dep, Shp.many]; omega
  | .and a b => by have := dep_many a; have := dep_many b; simp only [Shp.dep, Shp.many]; omega
  | .less a b => by have := dep_many a; have := dep_many b; simp only [Shp.dep, Shp.many]; omega
def dsIorS (w : Wo) (C : Addr) : DSp := fun ts ω q _ => ∃ a b dx dy s t, ts = [refD a, refD b] ∧ ω a = some (shpM C dx (codeAt 0 s)) ∧ ω b = some (shpM C dy (codeAt 0 t)) ∧ s.len ≤ 10000 ∧ t.len ≤ 10000 ∧ q (refD a) (updW ω a (shpM C dx (codeAt 0 (w.shp s t))))
section
variable {P : Program} {w : World} {K : PySem.W.Frag} {mg : Str → Option Value} {base : Heap} {C : Addr}
theorem m_ior (xc : OS K mg C) (h : HasM K C "__ior__" "Shape.__ior__" sSIor) (B : Bi mg) (D_joint : Dfn P w K mg base CX0 2 "joint" ["word", "one", "other"] (spD K dsJoint)) : Mfn P w K mg base CX0 3 C "__ior__" ["self", "other"] (spD K (dsIorS .or C)) := by
  refine mfnD (k := 2) h B scSIor (fun _ _ _ _ _ _ us hl => match us, hl with | [_, _], _ => rfl) (fun ts ω q xx h => ?_) (fun f cv A out s H E c => ⟨_, (dss_cons (ds_fld rfl (de_var (pv 0)) (de_d D_joint c (by omega) (by rfl) (da_cons de_str (da_cons (de_fld rfl (de_var (pv 0))) (da_cons (de_fld rfl (de_var (pv 1))) da_nil)))))
    (dss_one (ds_ret (de_var (pv 0))))), fun ts ω q xx z => ?_⟩)
  · obtain ⟨a, b, dx, dy, s, t, rfl, _⟩ := h
    rfl
  obtain ⟨a, b, dx, dy, s, t, rfl, ea, eb, sl, tl, z⟩ := z
  exact ⟨a, C, dx, _, _, rfl, ea, xc.cd.cl, xc.na, rfl, b, C, dy, _, _, rfl, eb, xc.cd.cl, xc.na, rfl, .or, s, t, rfl, sl, tl, a, C, dx, _, rfl, ea, xc.cd.cl, xc.na, by show 1 < 1000; decide, z⟩
theorem m_iand (xc : OS K mg C) (h : HasM K C "__iand__" "Shape.__iand__" sSIand) (B : Bi mg) (D_joint : Dfn P w K mg base CX0 2 "joint" ["word", "one", "other"] (spD K dsJoint)) : Mfn P w K mg base CX0 3 C "__iand__" ["self", "other"] (spD K (dsIorS .and C)) := by
  refine mfnD (k := 2) h B scSIand (fun _ _ _ _ _ _ us hl => match us, hl with | [_, _], _ => rfl) (fun ts ω q xx h => ?_) (fun f cv A out s H E c => ⟨_, (dss_cons (ds_fld rfl (de_var (pv 0)) (de_d D_joint c (by omega) (by rfl) (da_cons de_str (da_cons (de_fld rfl (de_var (pv 0))) (da_cons (de_fld rfl (de_var (pv 1))) da_nil)))))
    (dss_one (ds_ret (de_var (pv 0))))), fun ts ω q xx z => ?_⟩)
  · obtain ⟨a, b, dx, dy, s, t, rfl, _⟩ := h
    rfl
  obtain ⟨a, b, dx, dy, s, t, rfl, ea, eb, sl, tl, z⟩ := z
  exact ⟨a, C, dx, _, _, rfl, ea, xc.cd.cl, xc.na, rfl, b, C, dy, _, _, rfl, eb, xc.cd.cl, xc.na, rfl, .and, s, t, rfl, sl, tl, a, C, dx, _, rfl, ea, xc.cd.cl, xc.na, by show 1 < 1000; decide, z⟩
end
end Tx

namespace Tx
open PySem PySem.Spec PyProof.Rows L2
/-! ## how many lists and nested (_law_nests); the kids of a node -/
/-- 0 _law_node, 1 _law_inner, 2 _law_one -/
abbrev sLNests : Stmt := top 30
theorem scLNests : FnScope ["_law_node", "_law_inner", "_law_one"] ["_law_node"] (defScope sLNests) := ⟨rfl, rfl, rfl, by decide +kernel, rfl, by decide +kernel, by decide +kernel⟩
def dsNests (n : Nat) : DSp := fun ts ω q _ => ∃ s, ts = [nodeD s] ∧ s.dep < n ∧ q (.int ((s.nests : Nat) : Int)) ω
def restD : Shp → List PyData
  | .texts lo hi => [.int lo, hiN hi]
  | s => s.kids.map nodeD
theorem tail_of {ω : Wd} {Q : PyData → Prop} : ∀ {s : Shp}, Q (.tuple (restD s)) → slD (nodeD s) (some 1) none ω Q
  | .every, z => z
  | .never, z => z
  | .nothing, z => z
  | .texts _ _, z => z
  | .lists _, z => z
  | .nested _, z => z
  | .not _, z => z
  | .or _ _, z => z
  | .and _ _, z => z
  | .less _ _, z => z
theorem rest_cases : ∀ s : Shp, (∃ lo hi, s = .texts lo hi) ∨ restD s = s.kids.map nodeD
  | .every => .inr rfl
  | .never => .inr rfl
  | .nothing => .inr rfl
  | .texts lo hi => .inl ⟨lo, hi, rfl⟩
  | .lists _ => .inr rfl
  | .nested _ => .inr rfl
  | .not _ => .inr rfl
  | .or _ _ => .inr rfl
  | .and _ _ => .inr rfl
  | .less _ _ => .inr rfl
theorem rest_len : ∀ s : Shp, (restD s).length ≤ 2
  | .every => by simp [restD, Shp.kids]
  | .never => by simp [restD, Shp.kids]
  | .nothing => by simp [restD, Shp.kids]
  | .texts lo hi => by simp [restD]
  | .lists _ => by simp [restD, Shp.kids]
  | .nested _ => by simp [restD, Shp.kids]
  | .not _ => by simp [restD, Shp.kids]
  | .or _ _ => by simp [restD, Shp.kids]
  | .and _ _ => by simp [restD, Shp.kids]
  | .less _ _ => by simp [restD, Shp.kids]
theorem node_tup (k : Shp) : ∃ xs, nodeD k = .tuple xs := by cases k <;> exact ⟨_, rfl⟩
theorem kid_dep : ∀ {s k : Shp}, k ∈ s.kids → k.dep < s.dep
  | .lists s, k, h => by obtain rfl := List.mem_singleton.mp h; simp only [Shp.dep]; omega
  | .nested s, k, h => by obtain rfl := List.mem_singleton.mp h; simp only [Shp.dep]; omega
  | .not s, k, h => by obtain rfl := List.mem_singleton.mp h; simp only [Shp.dep]; omega
  | .or a b, k, h => by simp only [Shp.kids, List.mem_cons, List.not_mem_nil, or_false] at h; simp only [Shp.dep]; rcases h with rfl | rfl <;> omega
  | .and a b, k, h => by simp only [Shp.kids, List.mem_cons, List.not_mem_nil, or_false] at h; simp only [Shp.dep]; rcases h with rfl | rfl <;> omega
  | .less a b, k, h => by simp only [Shp.kids, List.mem_cons, List.not_mem_nil, or_false] at h; simp only [Shp.dep]; rcases h with rfl | rfl <;> omega
theorem kids_sum {sp : DSp} {g : Shp → Nat} {s : Shp} {j : Nat} {ρ : DS} {ω : Wd} {q : DQ} {x : DXK} (hk : ∀ k ∈ s.kids, ∀ (ω : Wd) (q : DQ), q (.int ((g k : Nat) : Int)) ω → sp [nodeD k] ω q X0) (h0 : ρ[0]? = some (some (nodeD s))) (hj : ∀ y, ((wipeD ρ [j]).set j (some y))[j]? = some (some y))
    (z : q (.list (s.kids.map fun k => PyData.int ((g k : Nat) : Int))) ω) : dLc (diData (dSl (dVar 0) (some (dC (.int 1))) none)) (dgName j) (dTest (dIsi isT (dVar j))) (dCall sp (dCons (dVar j) dNil)) [j] ρ ω q x := by
  have sl : 100 ≤ sizeLine := by decide
  have rl := rest_len s
  unfold dLc diData dSl dVar dC dgName dTest dIsi dCall dCons dNil
  simp only [h0]
  refine tail_of ⟨_, rfl, by omega, fun i acc ω2 => acc = ((s.kids.take i).map fun k => PyData.int ((g k : Nat) : Int)) ∧ ω2 = ω, ⟨rfl, rfl⟩, ?_, ?_⟩
  · rintro i y acc ω2 hy ⟨rfl, rfl⟩ _
    simp only [hj]
    rcases rest_cases s with ⟨lo, hi, rfl⟩ | e
    · have hy2 : y = .int lo ∨ y = hiN hi := by
        match i, hy with
        | 0, hy => cases hy; exact .inl rfl
        | 1, hy => cases hy; exact .inr rfl
        | i + 2, hy => simp [restD] at hy
      rcases hy2 with rfl | rfl
      · exact ⟨trivial, iteF ⟨by simp [Shp.kids], by trivial⟩⟩
      · cases hi with
        | none => exact ⟨trivial, iteF ⟨by simp [Shp.kids], by trivial⟩⟩
        | some h => exact ⟨trivial, iteF ⟨by simp [Shp.kids], by trivial⟩⟩
    · rw [e, List.getElem?_map] at hy
      obtain ⟨k, h1, rfl⟩ := Option.map_eq_some_iff.mp hy
      have ht := hk k (List.mem_of_getElem? h1)
      obtain ⟨xs, ex⟩ := node_tup k
      rw [ex] at ht ⊢
      refine ⟨trivial, iteT (ht _ _ ?_)⟩
      rw [← tk_snoc h1, List.map_append]
      exact ⟨rfl, by trivial⟩
  · rintro acc ω2 _ ⟨rfl, rfl⟩
    have : s.kids.take (restD s).length = s.kids := by
      rcases rest_cases s with ⟨lo, hi, rfl⟩ | e
      · rfl
      · rw [e, List.length_map, List.take_length]
    rw [this]
    exact z
theorem sum_nat (l : List Nat) : (l.map fun n => ((n : Nat) : Int)).sum = ((l.sum : Nat) : Int) := by
  induction l with
  | nil => rfl
  | cons x l ih => simp only [List.map_cons, List.sum_cons, ih, Int.natCast_add]
theorem sum_nat' {g : Shp → Nat} (l : List Shp) : (((l.map g).sum : Nat) : Int) = (l.map fun k => ((g k : Nat) : Int)).sum := by
  rw [← sum_nat, List.map_map]
  rfl
def wordOf : Shp → Str
  | .every => "every"
  | .never => "never"
  | .nothing => "nothing"
  | .texts _ _ => "texts"
  | .lists _ => "lists"
  | .nested _ => "nested"
  | .not _ => "not"
  | .or _ _ => "or"
  | .and _ _ => "and"
  | .less _ _ => "less"
def isNest : Shp → Bool
  | .lists _ => true
  | .nested _ => true
  | _ => false
theorem head_of {ω : Wd} {Q : PyData → Prop} : ∀ {s : Shp}, Q (.str (wordOf s)) → ixD (nodeD s) (.int 0) ω Q
  | .every, z => ⟨_, rfl, z⟩
  | .never, z => ⟨_, rfl, z⟩
  | .nothing, z => ⟨_, rfl, z⟩
  | .texts _ _, z => ⟨_, rfl, z⟩
  | .lists _, z => ⟨_, rfl, z⟩
  | .nested _, z => ⟨_, rfl, z⟩
  | .not _, z => ⟨_, rfl, z⟩
  | .or _ _, z => ⟨_, rfl, z⟩
  | .and _ _, z => ⟨_, rfl, z⟩
  | .less _ _, z => ⟨_, rfl, z⟩
theorem word_shaped : ∀ s : Shp, SeqAt.shaped (.str (wordOf s)) = true
  | .every => by show SeqAt.shaped (.str "every") = true; decide +kernel
  | .never => by show SeqAt.shaped (.str "never") = true; decide +kernel
  | .nothing => by show SeqAt.shaped (.str "nothing") = true; decide +kernel
  | .texts _ _ => by show SeqAt.shaped (.str "texts") = true; decide +kernel
  | .lists _ => by show SeqAt.shaped (.str "lists") = true; decide +kernel
  | .nested _ => by show SeqAt.shaped (.str "nested") = true; decide +kernel
  | .not _ => by show SeqAt.shaped (.str "not") = true; decide +kernel
  | .or _ _ => by show SeqAt.shaped (.str "or") = true; decide +kernel
  | .and _ _ => by show SeqAt.shaped (.str "and") = true; decide +kernel
  | .less _ _ => by show SeqAt.shaped (.str "less") = true; decide +kernel
theorem in_two : ∀ s : Shp, ([PyData.str "lists", PyData.str "nested"].any fun z => PyData.eqv z (.str (wordOf s))) = isNest s
  | .every => by show ([PyData.str "lists", PyData.str "nested"].any fun z => PyData.eqv z (.str "every")) = false; decide +kernel
  | .never => by show ([PyData.str "lists", PyData.str "nested"].any fun z => PyData.eqv z (.str "never")) = false; decide +kernel
  | .nothing => by show ([PyData.str "lists", PyData.str "nested"].any fun z => PyData.eqv z (.str "nothing")) = false; decide +kernel
  | .texts _ _ => by show ([PyData.str "lists", PyData.str "nested"].any fun z => PyData.eqv z (.str "texts")) = false; decide +kernel
  | .lists _ => by show ([PyData.str "lists", PyData.str "nested"].any fun z => PyData.eqv z (.str "lists")) = true; decide +kernel
  | .nested _ => by show ([PyData.str "lists", PyData.str "nested"].any fun z => PyData.eqv z (.str "nested")) = true; decide +kernel
  | .not _ => by show ([PyData.str "lists", PyData.str "nested"].any fun z => PyData.eqv z (.str "not")) = false; decide +kernel
  | .or _ _ => by show ([PyData.str "lists", PyData.str "nested"].any fun z => PyData.eqv z (.str "or")) = false; decide +kernel
  | .and _ _ => by show ([PyData.str "lists", PyData.str "nested"].any fun z => PyData.eqv z (.str "and")) = false; decide +kernel
  | .less _ _ => by show ([PyData.str "lists", PyData.str "nested"].any fun z => PyData.eqv z (.str "less")) = false; decide +kernel
theorem nests_kids : ∀ s : Shp, s.nests = (s.kids.map Shp.nests).sum + (if isNest s = true then 1 else 0)
  | .every => rfl
  | .never => rfl
  | .nothing => rfl
  | .texts _ _ => rfl
  | .lists s => by simp [Shp.nests, Shp.kids, isNest]
  | .nested s => by simp [Shp.nests, Shp.kids, isNest]
  | .not s => by simp [Shp.nests, Shp.kids, isNest]
  | .or a b => by simp [Shp.nests, Shp.kids, isNest]
  | .and a b => by simp [Shp.nests, Shp.kids, isNest]
  | .less a b => by simp [Shp.nests, Shp.kids, isNest]
section
variable {P : Program} {w : World} {K : PySem.W.Frag} {mg : Str → Option Value} {base : Heap} {C : Addr}
theorem dd_nests (h : Has K mg "_law_nests" sLNests) (B : Bi mg) : ∀ n, Dfn P w K mg base CX0 n "_law_nests" ["_law_node"] (spD K (dsNests n))
  | 0 => dfnD_none h (fun _ _ _ _ _ _ us hl => match us, hl with | [_], _ => rfl) fun ts ω q xx z => by
    obtain ⟨s, _, z, _⟩ := z
    omega
  | n + 1 => by
    have D_law_nests := dd_nests h B n
    refine dfnD (k := n) h B scLNests (fun _ _ _ _ _ _ us hl => match us, hl with | [_], _ => rfl) (fun ts ω q xx h => ?_) (fun f cv A out s H E c => ⟨_, (dss_cons (ds_set (i := 1) scLNests.nd rfl (Or.inl rfl) (de_callB (dc_sum rfl rfl) (by rfl) c.b.sum (by decide +kernel) (da_cons (de_lc (own := [("_law_one", 2)]) (gd := (dgName 2)) (is := [2]) rfl scLNests.nd (di_data rfl (de_sl rfl (de_var (pv 0)) (do_some de_int) do_none)) (blkOk_by (own := [("_law_one", 2)]) (N := ["_law_node", "_law_inner", "_law_one"]) (sc := defScope sLNests) (by decide +kernel)) (fun _ _ _ _ _ => (dg_name (pg_name (i := 2) scLNests.nd rfl (Or.inl rfl)))) (fun _ _ _ _ _ => dts_one (dt_val (de_isi (T := "tuple") rfl kit_tuple (by rfl) c.b.isinstance (de_var (pv 2)) (pe_bltn (v := .ty "tuple") (by rfl) c.b.tuple (by decide +kernel) rfl)))) (fun _ _ _ _ _ => (de_d D_law_nests c (by omega) (by rfl) (da_cons (de_var (pv 2)) da_nil)))) da_nil)))
    (dss_one (ds_ret (de_op (do_add rfl) (de_var (pv 1)) (de_callTy (dc_int rfl) (by rfl) c.b.int (by decide +kernel) (da_cons (de_cmp (do_in rfl c.r.units65) (de_ix rfl (de_var (pv 0)) de_int (fun _ _ => rfl)) (de_lst (da_cons de_str (da_cons de_str da_nil))) (by rfl)) da_nil)))))), fun ts ω q xx z => ?_⟩)
    · obtain ⟨s, rfl, _⟩ := h
      rfl
    obtain ⟨s, rfl, dn, z⟩ := z
    simp only [dAnd, dAndV, dAsg, dC, dCB, dCall, dCallX, dChain, dCons, dDrop, dErr1, dIf, dIfS, dIsi, dLst, dNext, dNil, dNot, dNotV, dOp, dOr, dOrV, dPar, dRet, dRetN, dRetS, dSeq, dSet, dSl, dTest, dTup, dVar, dgCons, dgName, dgNil, dgTup, dNeg, endsD, xcOf, dFz, startD, wipeD, List.getElem?_cons_zero, List.getElem?_cons_succ, List.set_cons_zero, List.set_cons_succ, List.map_cons, List.map_nil, List.cons_append, List.nil_append, List.length_cons, List.length_nil, List.replicate]
    refine kids_sum (s := s) (g := Shp.nests) (fun k hk ω q z => ⟨k, rfl, by have := kid_dep hk; omega, z⟩) rfl (fun y => rfl) ?_
    refine ⟨_, s.kids.map (fun k => ((k.nests : Nat) : Int)), rfl, by simp only [rsv, List.map_map]; rfl, ?_⟩
    rw [← sum_nat']
    refine head_of ⟨by decide, _, .inl rfl, word_shaped s, by decide +kernel, ?_⟩
    rw [in_two]
    have e : ((s.nests : Nat) : Int) = (((s.kids.map Shp.nests).sum : Nat) : Int) + (if isNest s = true then 1 else 0) := by
      rw [nests_kids s, Int.natCast_add]
      split <;> rfl
    show q (.int ((((s.kids.map Shp.nests).sum : Nat) : Int) + (if isNest s = true then 1 else 0))) ω
    rw [← e]
    exact z
end
end Tx

namespace Tx
open PySem PySem.Spec PyProof.Rows L2
/-! ## k17: how many calls; whether two fit -/
/-- 0 _law_node, 1 _law_one -/
abbrev sLMany : Stmt := top 29
theorem scLMany : FnScope ["_law_node", "_law_one"] ["_law_node"] (defScope sLMany) := ⟨rfl, rfl, rfl, by decide +kernel, rfl, by decide +kernel, by decide +kernel⟩
/-- 0 _law_node, 1 _law_beside -/
abbrev sLFits : Stmt := top 31
theorem scLFits : FnScope ["_law_node", "_law_beside"] ["_law_node", "_law_beside"] (defScope sLFits) := ⟨rfl, rfl, rfl, by decide +kernel, rfl, by decide +kernel, by decide +kernel⟩
theorem many_kids : ∀ s : Shp, s.many = 1 + (s.kids.map Shp.many).sum
  | .every => rfl
  | .never => rfl
  | .nothing => rfl
  | .texts _ _ => rfl
  | .lists s => by simp [Shp.many, Shp.kids]; omega
  | .nested s => by simp [Shp.many, Shp.kids]; omega
  | .not s => by simp [Shp.many, Shp.kids]; omega
  | .or a b => by simp [Shp.many, Shp.kids]; omega
  | .and a b => by simp [Shp.many, Shp.kids]; omega
  | .less a b => by simp [Shp.many, Shp.kids]; omega
def dsMany (n : Nat) : DSp := fun ts ω q _ => ∃ s, ts = [nodeD s] ∧ s.dep < n ∧ q (.int ((s.many : Nat) : Int)) ω
def dsFits : DSp := fun ts ω q _ => ∃ s t, ts = [nodeD s, nodeD t] ∧ s.dep < 60 ∧ t.dep < 60 ∧ q (.bool (decide (s.many + t.many < 30) && decide (s.nests + t.nests < 6))) ω
section
variable {P : Program} {w : World} {K : PySem.W.Frag} {mg : Str → Option Value} {base : Heap} {C : Addr}
theorem dd_many (h : Has K mg "_law_many" sLMany) (B : Bi mg) : ∀ n, Dfn P w K mg base CX0 n "_law_many" ["_law_node"] (spD K (dsMany n))
  | 0 => dfnD_none h (fun _ _ _ _ _ _ us hl => match us, hl with | [_], _ => rfl) fun ts ω q xx z => by
    obtain ⟨s, _, z, _⟩ := z
    omega
  | n + 1 => by
    have D_law_many := dd_many h B n
    refine dfnD (k := n) h B scLMany (fun _ _ _ _ _ _ us hl => match us, hl with | [_], _ => rfl) (fun ts ω q xx h => ?_) (fun f cv A out s H E c => ⟨_, (dss_one (ds_ret (de_op (do_add rfl) de_int (de_callB (dc_sum rfl rfl) (by rfl) c.b.sum (by decide +kernel) (da_cons (de_lc (own := [("_law_one", 1)]) (gd := (dgName 1)) (is := [1]) rfl scLMany.nd (di_data rfl (de_sl rfl (de_var (pv 0)) (do_some de_int) do_none)) (blkOk_by (own := [("_law_one", 1)]) (N := ["_law_node", "_law_one"]) (sc := defScope sLMany) (by decide +kernel)) (fun _ _ _ _ _ => (dg_name (pg_name (i := 1) scLMany.nd rfl (Or.inl rfl)))) (fun _ _ _ _ _ => dts_one (dt_val (de_isi (T := "tuple") rfl kit_tuple (by rfl) c.b.isinstance (de_var (pv 1)) (pe_bltn (v := .ty "tuple") (by rfl) c.b.tuple (by decide +kernel) rfl)))) (fun _ _ _ _ _ => (de_d D_law_many c (by omega) (by rfl) (da_cons (de_var (pv 1)) da_nil)))) da_nil))))), fun ts ω q xx z => ?_⟩)
    · obtain ⟨s, rfl, _⟩ := h
      rfl
    obtain ⟨s, rfl, dn, z⟩ := z
    simp only [dAnd, dAndV, dAsg, dC, dCB, dCall, dCallX, dChain, dCons, dDrop, dErr1, dIf, dIfS, dIsi, dLst, dNext, dNil, dNot, dNotV, dOp, dOr, dOrV, dPar, dRet, dRetN, dRetS, dSeq, dSet, dSl, dTest, dTup, dVar, dgCons, dgName, dgNil, dgTup, dNeg, endsD, xcOf, dFz, startD, wipeD, List.getElem?_cons_zero, List.getElem?_cons_succ, List.set_cons_zero, List.set_cons_succ, List.map_cons, List.map_nil, List.cons_append, List.nil_append, List.length_cons, List.length_nil, List.replicate]
    refine kids_sum (s := s) (g := Shp.many) (fun k hk ω q z => ⟨k, rfl, by have := kid_dep hk; omega, z⟩) rfl (fun y => rfl) ?_
    refine ⟨_, s.kids.map (fun k => ((k.many : Nat) : Int)), rfl, by simp only [rsv, List.map_map]; rfl, ?_⟩
    have e : ((s.many : Nat) : Int) = 1 + (s.kids.map (fun k => ((k.many : Nat) : Int))).sum := by
      rw [many_kids s, Int.natCast_add, sum_nat']
      rfl
    show q (.int (1 + _)) ω
    rw [← e]
    exact z
theorem dd_fits (h : Has K mg "_law_fits" sLFits) (B : Bi mg) (D_law_many : Dfn P w K mg base CX0 60 "_law_many" ["_law_node"] (spD K (dsMany 60))) (D_law_nests : Dfn P w K mg base CX0 60 "_law_nests" ["_law_node"] (spD K (dsNests 60))) : Dfn P w K mg base CX0 61 "_law_fits" ["_law_node", "_law_beside"] (spD K dsFits) := by
  refine dfnD (k := 60) h B scLFits (fun _ _ _ _ _ _ us hl => match us, hl with | [_, _], _ => rfl) (fun ts ω q xx h => ?_) (fun f cv A out s H E c => ⟨_, (dss_one (ds_ret (de_and (de_cmp (do_lt rfl) (de_op (do_add rfl) (de_d D_law_many c (by omega) (by rfl) (da_cons (de_var (pv 0)) da_nil)) (de_d D_law_many c (by omega) (by rfl) (da_cons (de_var (pv 1)) da_nil))) de_int (nomark _)) (de_one (de_cmp (do_lt rfl) (de_op (do_add rfl) (de_d D_law_nests c (by omega) (by rfl) (da_cons (de_var (pv 0)) da_nil)) (de_d D_law_nests c (by omega) (by rfl) (da_cons (de_var (pv 1)) da_nil))) de_int (nomark _)))))), fun ts ω q xx z => ?_⟩)
  · obtain ⟨s, t, rfl, _⟩ := h
    rfl
  obtain ⟨s, t, rfl, d1, d2, z⟩ := z
  simp only [dAnd, dAndV, dAsg, dC, dCB, dCall, dCallX, dChain, dCons, dDrop, dErr1, dIf, dIfS, dIsi, dLst, dNext, dNil, dNot, dNotV, dOp, dOr, dOrV, dPar, dRet, dRetN, dRetS, dSeq, dSet, dSl, dTest, dTup, dVar, dgCons, dgName, dgNil, dgTup, dNeg, endsD, xcOf, dFz, startD, wipeD, List.getElem?_cons_zero, List.getElem?_cons_succ, List.set_cons_zero, List.set_cons_succ, List.map_cons, List.map_nil, List.cons_append, List.nil_append, List.length_cons, List.length_nil, List.replicate]
  refine ⟨s, rfl, d1, t, rfl, d2, trivial, ?_⟩
  have e1 : decide (((s.many : Nat) : Int) + ((t.many : Nat) : Int) < 30) = decide (s.many + t.many < 30) := decide_eq_decide.mpr (by omega)
  have e2 : decide (((s.nests : Nat) : Int) + ((t.nests : Nat) : Int) < 6) = decide (s.nests + t.nests < 6) := decide_eq_decide.mpr (by omega)
  show (if decide (((s.many : Nat) : Int) + ((t.many : Nat) : Int) < 30) = true then _ else _)
  rw [e1]
  cases h : decide (s.many + t.many < 30) with
  | true =>
    rw [h, Bool.true_and] at z
    refine iteT ⟨s, rfl, d1, t, rfl, d2, trivial, ?_⟩
    show q (.bool (decide (((s.nests : Nat) : Int) + ((t.nests : Nat) : Int) < 6))) ω
    rw [e2]
    exact z
  | false =>
    rw [h, Bool.false_and] at z
    exact iteF z
end
end Tx

namespace Tx
open PySem PySem.Spec PyProof.Rows L2
/-! ## what is compared with (): plain -/
theorem Fits.left {s : Shp} (h : Fits (.less s .never)) : Fits s := by
  have h1 := h.len
  have h2 := h.nls
  rw [nLs_code] at h2
  simp only [Shp.len, Shp.nests] at h1 h2
  exact ⟨by omega, fun nd hnd => h.mx nd (by simp only [codeAt]; exact List.mem_append_left _ (List.mem_append_left _ hnd)), by rw [nLs_code]; omega⟩
theorem eqv_t1 (d : PyData) : PyData.eqv (.tuple [d]) (.tuple []) = false := by simp [PyData.eqv, PyData.eqvAll]
theorem one_shaped {d : PyData} (h : isVal d = true) (hd : d.depth ≤ 8) : SeqAt.shaped (.tuple [d]) = true := by
  refine Bool.and_eq_true_iff.mpr ⟨?_, decide_eq_true (by simp only [PyData.depth, PyData.depthAll]; omega)⟩
  simp only [PyData.canLay0, PyData.canLayAll0, fine_lay _ (val_fine _ h), Bool.and_self]
theorem ints_shaped (ns : List Int) : SeqAt.shaped (.list (ns.map PyData.int)) = true := by
  have h : ∀ ns : List Int, PyData.canLayAll0 (ns.map PyData.int) = true := fun ns => by
    induction ns with
    | nil => rfl
    | cons n ns ih => simp only [List.map_cons, PyData.canLayAll0, PyData.canLay0, ih, Bool.and_self]
  refine Bool.and_eq_true_iff.mpr ⟨by simp only [PyData.canLay0]; exact h ns, decide_eq_true (by simp only [PyData.depth, depth_ints]; omega)⟩
end Tx

namespace Tx
open PySem PySem.Spec PyProof.Rows L2
/-! ## k17: is a shape met by values -/
/-- 0 _law_shape_here, 1 _law_node, 2 _law_values, 3 _law_sizes, 4 _law_least, 5 _law_value_here -/
abbrev sIsMet : Stmt := top 33
theorem scIsMet : FnScope ["_law_shape_here", "_law_node", "_law_values", "_law_sizes", "_law_least", "_law_value_here"] ["_law_shape_here", "_law_node", "_law_values"] (defScope sIsMet) := ⟨rfl, rfl, rfl, by decide +kernel, rfl, by decide +kernel, by decide +kernel⟩
def dsMet (C : Addr) : DSp := fun ts ω q _ => ∃ a dx s vs, ts = [refD a, nodeD s, .list vs] ∧ ω a = some (shpM C dx (codeAt 0 s)) ∧ (s.nests ≤ 3 → Fits (.less s .never)) ∧ Nod s (nodeD s) ∧ s.dep < 40 ∧ (∀ v ∈ vs, isVal v = true ∧ v.depth ≤ 8 ∧ szD v ≤ 1000) ∧ vs.length ≤ 1000 ∧ q (.bool true) ω
section
variable {P : Program} {w : World} {K : PySem.W.Frag} {mg : Str → Option Value} {base : Heap} {C : Addr}
theorem dd_met (xc : OS K mg C) (h : Has K mg "_law_is_met" sIsMet) (B : Bi mg) (D_law_nests : Dfn P w K mg base CX0 60 "_law_nests" ["_law_node"] (spD K (dsNests 60))) (D_law_has : Dfn P w K mg base CX0 60 "_law_has" ["_law_node", "_law_value_here"] (spD K (dsHas 60))) (D_law_size : Dfn P w K mg base CX0 30 "_law_size" ["_law_value_here"] (spD K (dsSize 30)))
    (M_least : Mfn P w K mg base CX0 32 C "least" ["self"] (spD K (dsLeastS C))) (M_bool : Mfn P w K mg base CX0 8 C "__bool__" ["self"] (spD K (dsBoolS C))) : Dfn P w K mg base CX0 62 "_law_is_met" ["_law_shape_here", "_law_node", "_law_values"] (spD K (dsMet C)) := by
  refine dfnD (k := 61) h B scIsMet (fun _ _ _ _ _ _ us hl => match us, hl with | [_, _, _], _ => rfl) (fun ts ω q xx h => ?_) (fun f cv A out s H E c => ⟨_, (dss_cons (ds_if (dt_cmp (do_gt rfl) (de_d D_law_nests c (by omega) (by rfl) (da_cons (de_var (pv 1)) da_nil)) de_int (nomark _)) (dss_one (ds_ret de_bl)) dss_nil)
    (dss_cons (ds_setLc (i := 3) (own := [("_law_value_here", 5)]) (gd := (dgName 5)) (is := [5]) rfl scIsMet.nd rfl rfl (sw_true rfl rfl rfl (by decide +kernel)) (di_data rfl (de_var (pv 2))) (blkOk_by (own := [("_law_value_here", 5)]) (N := ["_law_shape_here", "_law_node", "_law_values", "_law_sizes", "_law_least", "_law_value_here"]) (sc := defScope sIsMet) (by decide +kernel)) (fun _ _ _ _ _ => (dg_name (pg_name (i := 5) scIsMet.nd rfl (Or.inl rfl)))) (fun _ _ _ _ _ => dts_one (dt_val (de_d D_law_has c (by omega) (by rfl) (da_cons (de_var (pv 1)) (da_cons (de_var (pv 5)) da_nil))))) (fun _ _ _ _ _ => (de_d D_law_size c (by omega) (by rfl) (da_cons (de_var (pv 5)) da_nil))))
    (dss_cons (ds_set (i := 4) scIsMet.nd rfl (Or.inl rfl) (de_meth0 rfl M_least xc.cd.cl c (by omega) px0 (de_var (pv 0))))
    (dss_cons (ds_if (DW.dt (dw_or (dt_cmp (do_ne rfl c.r.units) (de_callTyM (dc_boolO rfl M_bool c (by omega)) (by rfl) c.b.bool (by decide +kernel) (da_cons (de_var (pv 0)) da_nil)) (de_cmp (do_ne rfl c.r.units) (de_var (pv 4)) (de_tup da_nil) (nomark _)) (nomark _)) (dw_or1 (DW.dt (dw_and (dt_cmp (do_eq rfl c.r.units) (de_var (pv 4)) (de_tup da_nil) (nomark _)) (dw_and1 (dt_cmp (do_ne rfl c.r.units) (de_var (pv 3)) (de_lst da_nil) (nomark _)))))))) (dss_one (ds_ret de_bl)) dss_nil)
    (dss_cons (ds_if (dt_cmp (do_eq rfl c.r.units) (de_var (pv 4)) (de_tup da_nil) (nomark _)) (dss_one (ds_ret de_bl)) dss_nil)
    (dss_one (ds_ret (de_and (de_d D_law_has c (by omega) (by rfl) (da_cons (de_var (pv 1)) (da_cons (de_ix rfl (de_var (pv 4)) de_int (fun _ _ => rfl)) da_nil))) (de_one (de_or (de_cmp (do_eq rfl c.r.units) (de_var (pv 3)) (de_lst da_nil) (nomark _)) (de_one (de_cmp (do_le rfl) (de_d D_law_size c (by omega) (by rfl) (da_cons (de_ix rfl (de_var (pv 4)) de_int (fun _ _ => rfl)) da_nil)) (de_callB (dc_min rfl rfl) (by rfl) c.b.min (by decide +kernel) (da_cons (de_var (pv 3)) da_nil)) (nomark _))))))))))))), fun ts ω q xx z => ?_⟩)
  · obtain ⟨a, dx, s, vs, rfl, _⟩ := h
    rfl
  obtain ⟨a, dx, s, vs, rfl, ea, fi, nod, dp, vv, lv, z⟩ := z
  simp only [dAnd, dAndV, dAsg, dC, dCB, dCall, dCallX, dChain, dCons, dDrop, dErr1, dIf, dIfS, dIsi, dLst, dNext, dNil, dNot, dNotV, dOp, dOr, dOrV, dPar, dRet, dRetN, dRetS, dSeq, dSet, dSl, dTest, dTup, dVar, dgCons, dgName, dgNil, dgTup, dNeg, endsD, xcOf, dFz, startD, wipeD, List.getElem?_cons_zero, List.getElem?_cons_succ, List.set_cons_zero, List.set_cons_succ, List.map_cons, List.map_nil, List.cons_append, List.nil_append, List.length_cons, List.length_nil, List.replicate]
  refine ⟨s, rfl, by omega, trivial, ?_⟩
  refine ite2 (fun _ => z) (fun hn => ?_)
  have n3 : s.nests ≤ 3 := by simp only [decide_eq_true_eq] at hn; omega
  have fs := fi n3
  have sl : 1000 ≤ sizeLine := by decide
  refine ⟨vs, rfl, by omega, fun i acc ω2 => acc = ((vs.take i).filter (has s)).map (fun v => PyData.int ((szD v : Nat) : Int)) ∧ ω2 = ω, ⟨rfl, rfl⟩, ?_, ?_⟩
  · rintro i v acc ω2 hy ⟨rfl, rfl⟩ _
    obtain ⟨v1, v2, v3⟩ := vv v (List.mem_of_getElem? hy)
    simp only [dAnd, dAndV, dAsg, dC, dCB, dCall, dCallX, dChain, dCons, dDrop, dErr1, dIf, dIfS, dIsi, dLst, dNext, dNil, dNot, dNotV, dOp, dOr, dOrV, dPar, dRet, dRetN, dRetS, dSeq, dSet, dSl, dTest, dTup, dVar, dgCons, dgName, dgNil, dgTup, dNeg, endsD, xcOf, dFz, startD, wipeD, List.getElem?_cons_zero, List.getElem?_cons_succ, List.set_cons_zero, List.set_cons_succ, List.map_cons, List.map_nil, List.cons_append, List.nil_append, List.length_cons, List.length_nil, List.replicate]
    refine ⟨s, v, nodeD s, rfl, nod, v1, by omega, by omega, ?_⟩
    dsimp only
    rw [← tk_snoc hy, List.filter_append, List.map_append]
    cases hs : has s v with
    | true =>
      refine iteT ⟨v, rfl, v1, by omega, by omega, ?_, by trivial⟩
      simp [List.filter_cons, hs]
    | false =>
      refine iteF ⟨?_, by trivial⟩
      simp [List.filter_cons, hs]
  rintro acc ω2 _ ⟨rfl, rfl⟩
  rw [List.take_length]
  have hi : isIns C "least" (shpM C dx (codeAt 0 s)) := ⟨rfl, rfl⟩
  have hb : isIns C "__bool__" (shpM C dx (codeAt 0 s)) := ⟨rfl, rfl⟩
  refine ⟨a, _, rfl, ea, hi, a, dx, s, rfl, ea, fs, fun r hr => ?_⟩
  refine ⟨_, rfl, ⟨a, _, rfl, ea, hb⟩, a, dx, s, rfl, ea, fs.left, fun b wb => ⟨b, rfl, ?_⟩⟩
  refine ⟨Nat.zero_le _, ?_⟩
  rcases hr with ⟨rfl, none⟩ | ⟨d, rfl, g1, g2, g3, g4, g5⟩
  · have eb : b = false := by
      cases b with
      | false => rfl
      | true => obtain ⟨v, h1, h2⟩ := wb.1 rfl; rw [none v h1] at h2; cases h2
    subst eb
    have eL : vs.filter (has s) = [] := List.filter_eq_nil_iff.mpr fun v hv => by rw [none v (vv v hv).1]; simp
    rw [eL]
    refine ⟨_, _, .inl rfl, .inl rfl, by decide +kernel, by decide +kernel, ?_⟩
    refine ⟨_, _, .inl rfl, .inl rfl, bool_shapedR _, bool_shapedR _, ?_⟩
    rw [eqv_boolR]
    have e0 : PyData.eqv (.tuple []) (.tuple []) = true := by decide +kernel
    have e3 : PyData.eqv (.list []) (.list []) = true := by decide +kernel
    rw [e0]
    refine iteF ⟨Nat.zero_le _, _, _, .inl rfl, .inl rfl, by decide +kernel, by decide +kernel, ?_⟩
    rw [e0]
    refine iteT ⟨Nat.zero_le _, _, _, .inl rfl, .inl rfl, by decide +kernel, by decide +kernel, ?_⟩
    rw [show (List.map (fun v => PyData.int ((szD v : Nat) : Int)) []) = [] from rfl, e3]
    refine iteF ⟨Nat.zero_le _, _, _, .inl rfl, .inl rfl, by decide +kernel, by decide +kernel, ?_⟩
    rw [e0]
    exact iteT z
  · have eb : b = true := wb.2 d g1 g2
    subst eb
    refine ⟨_, _, .inl rfl, .inl rfl, one_shaped g1 g3, by decide +kernel, ?_⟩
    rw [eqv_t1]
    refine ⟨_, _, .inl rfl, .inl rfl, bool_shapedR _, bool_shapedR _, ?_⟩
    rw [eqv_boolR]
    have met : ∀ v ∈ vs.filter (has s), szD d ≤ szD v := fun v hv => by
      obtain ⟨h1, h2⟩ := List.mem_filter.mp hv
      exact g5 v (vv v h1).1 h2
    have e5 : ((vs.filter (has s)).map fun v => PyData.int ((szD v : Nat) : Int)) = (((vs.filter (has s)).map fun v => ((szD v : Nat) : Int)).map PyData.int) := by rw [List.map_map]; rfl
    rw [e5]
    have g14 : szD d ≤ 1000000 := Nat.le_trans g4 (by decide)
    have se := ints_shaped ((vs.filter (has s)).map fun v => ((szD v : Nat) : Int))
    refine iteF ⟨Nat.zero_le _, _, _, .inl rfl, .inl rfl, one_shaped g1 g3, by decide +kernel, ?_⟩
    rw [eqv_t1]
    refine iteF ⟨Nat.zero_le _, _, _, .inl rfl, .inl rfl, one_shaped g1 g3, by decide +kernel, ?_⟩
    rw [eqv_t1]
    refine iteF ⟨d, rfl, s, d, nodeD s, rfl, nod, g1, g14, by omega, ?_⟩
    dsimp only
    rw [g2]
    refine iteT ⟨Nat.zero_le _, _, _, .inl rfl, .inl rfl, se, by decide +kernel, ?_⟩
    rw [eqv_nilR]
    generalize vs.filter (has s) = L at met
    cases L with
    | nil => exact iteT z
    | cons v0 rest =>
      refine iteF ⟨d, rfl, d, rfl, g1, by omega, g14, ?_⟩
      refine ⟨_, (v0 :: rest).map (fun v => ((szD v : Nat) : Int)), rfl, rfl, by simp, fun m hm _ => ⟨trivial, ?_⟩⟩
      obtain ⟨v, h1, rfl⟩ := List.mem_map.mp hm
      have := met v h1
      dsimp only
      rw [decide_eq_true (show ((szD d : Nat) : Int) ≤ ((szD v : Nat) : Int) by omega)]
      exact z
end
end Tx

namespace Tx
open PySem PySem.Spec PyProof.Rows L2
/-! ## Shape: within, == -/
/-- 0 self, 1 other -/
abbrev sSWithin : Stmt := inClass (top 19) 19
theorem scSWithin : FnScope ["self", "other"] ["self", "other"] (defScope sSWithin) := ⟨rfl, rfl, rfl, by decide +kernel, rfl, by decide +kernel, by decide +kernel⟩
/-- 0 self, 1 other -/
abbrev sSEq : Stmt := inClass (top 19) 16
theorem scSEq : FnScope ["self", "other"] ["self", "other"] (defScope sSEq) := ⟨rfl, rfl, rfl, by decide +kernel, rfl, by decide +kernel, by decide +kernel⟩
/-- all of s is in t -/
def Sub (s t : Shp) (b : Bool) : Prop := (b = true → ∀ v, isVal v = true → has s v = true → has t v = true) ∧ (b = false → ∃ v, isVal v = true ∧ has s v = true ∧ has t v = false)
def dsWithin (C : Addr) : DSp := fun ts ω q _ => ∃ a b dx dy s t, ts = [refD a, refD b] ∧ ω a = some (shpM C dx (codeAt 0 s)) ∧ ω b = some (shpM C dy (codeAt 0 t)) ∧ Fits (.less s t) ∧ ∀ r, Sub s t r → q (.bool r) ω
/-- what isinstance(x, C) asks -/
structure InsK (K : PySem.W.Frag) (C : Addr) : Prop where
  ha : PySem.W.findIn K (.ref C) "__class__" = some (some (.builtin "object.__class__"))
  hn : PySem.W.specialIn K (.builtin "object.__class__") "__get__" = some (some (.builtin "getset_descriptor.__get__"))
  htk : PySem.W.takesIn K (.builtin "object.__class__") = some true
  hm : PySem.W.mroIn K C (.type "object") = some true
  kc : PySem.W.kitOne K (.ref C) (.ref C) = some true
/-- == of a shape and anything -/
def dsSEq (K : PySem.W.Frag) (C : Addr) : DSp := fun ts ω q _ => (∃ a y dx s ty, ts = [refD a, y] ∧ ω a = some (shpM C dx (codeAt 0 s)) ∧ TyD K ω y ty ∧ PySem.W.kitOne K ty (.ref C) = some false ∧ q (.bool false) ω) ∨
  ∃ a b dx dy s t, ts = [refD a, refD b] ∧ ω a = some (shpM C dx (codeAt 0 s)) ∧ ω b = some (shpM C dy (codeAt 0 t)) ∧ Fits (.less s t) ∧ Fits (.less t s) ∧ ∀ r, (r = true → ∀ v, isVal v = true → has s v = has t v) ∧ (r = false → ∃ v, isVal v = true ∧ has s v ≠ has t v) → q (.bool r) ω
section
variable {P : Program} {w : World} {K : PySem.W.Frag} {mg : Str → Option Value} {base : Heap} {C : Addr}
theorem m_within (xc : OS K mg C) (h : HasM K C "within" "Shape.within" sSWithin) (B : Bi mg) (M_least_beyond : Mfn P w K mg base CX0 31 C "least_beyond" ["self", "other"] (spD K (dsLeastB C))) :
    Mfn P w K mg base CX0 32 C "within" ["self", "other"] (spD K (dsWithin C)) := by
  refine mfnD (k := 31) h B scSWithin (fun _ _ _ _ _ _ us hl => match us, hl with | [_, _], _ => rfl) (fun ts ω q xx h => ?_) (fun f cv A out s H E c => ⟨_, (dss_one (ds_ret (de_cmp (do_eq rfl c.r.units) (de_meth rfl M_least_beyond xc.cd.cl c (by omega) px0 (de_var (pv 0)) (da_cons (de_var (pv 1)) da_nil)) (de_tup da_nil) (nomark _)))), fun ts ω q xx z => ?_⟩)
  · obtain ⟨a, b, dx, dy, s, t, rfl, _⟩ := h
    rfl
  obtain ⟨a, b, dx, dy, s, t, rfl, ea, eb, fi, z⟩ := z
  have hi : isIns C "least_beyond" (shpM C dx (codeAt 0 s)) := ⟨rfl, rfl⟩
  refine ⟨a, _, rfl, ea, hi, ?_⟩
  refine ⟨a, b, dx, dy, s, t, rfl, ea, eb, fi, fun r hr => ?_⟩
  have e0 : PyData.eqv (.tuple []) (.tuple []) = true := by decide +kernel
  rcases hr with ⟨rfl, none⟩ | ⟨d, rfl, g1, g2, g3, g4, g5⟩
  · refine ⟨Nat.zero_le _, _, _, .inl rfl, .inl rfl, by decide +kernel, by decide +kernel, ?_⟩
    rw [e0]
    refine z true ⟨fun _ v hv hs => ?_, fun e => by cases e⟩
    have := none v hv
    simp only [has, hs, Bool.true_and, Bool.not_eq_false'] at this
    exact this
  · refine ⟨Nat.zero_le _, _, _, .inl rfl, .inl rfl, one_shaped g1 g3, by decide +kernel, ?_⟩
    rw [eqv_t1]
    simp only [has, Bool.and_eq_true, Bool.not_eq_true'] at g2
    exact z false ⟨fun e => (by cases e), fun _ => ⟨d, g1, g2.1, g2.2⟩⟩
theorem m_seq (xc : OS K mg C) (ic : InsK K C) (h : HasM K C "__eq__" "Shape.__eq__" sSEq) (B : Bi mg) (M_within : Mfn P w K mg base CX0 32 C "within" ["self", "other"] (spD K (dsWithin C))) :
    Mfn P w K mg base CX0 33 C "__eq__" ["self", "other"] (spD K (dsSEq K C)) := by
  refine mfnD (k := 32) h B scSEq (fun _ _ _ _ _ _ us hl => match us, hl with | [_, _], _ => rfl) (fun ts ω q xx h => ?_) (fun f cv A out s H E c => ⟨_, (dss_one (ds_ret (de_and (de_isC rfl (by rfl) c.b.isinstance (de_var (pv 1)) (pe_gcl xc.cd.gC (by rfl))) (de_and (de_meth rfl M_within xc.cd.cl c (by omega) px0 (de_var (pv 0)) (da_cons (de_var (pv 1)) da_nil)) (de_one (de_meth rfl M_within xc.cd.cl c (by omega) px0 (de_var (pv 1)) (da_cons (de_var (pv 0)) da_nil))))))), fun ts ω q xx z => ?_⟩)
  · rcases h with ⟨a, y, dx, s, ty, rfl, _⟩ | ⟨a, b, dx, dy, s, t, rfl, _⟩ <;> rfl
  rcases z with ⟨a, y, dx, s, ty, rfl, ea, hy, hk, z⟩ | ⟨a, b, dx, dy, s, t, rfl, ea, eb, f1, f2, z⟩
  · unfold dRet
    simp only [dAnd, dAndV, dAsg, dC, dCB, dCall, dCallX, dChain, dCons, dDrop, dErr1, dIf, dIfS, dIsi, dLst, dNext, dNil, dNot, dNotV, dOp, dOr, dOrV, dPar, dRet, dRetN, dRetS, dSeq, dSet, dSl, dTest, dTup, dVar, dgCons, dgName, dgNil, dgTup, dNeg, endsD, xcOf, dFz, startD, wipeD, List.getElem?_cons_zero, List.getElem?_cons_succ, List.set_cons_zero, List.set_cons_succ, List.map_cons, List.map_nil, List.cons_append, List.nil_append, List.length_cons, List.length_nil, List.replicate]
    exact ⟨ty, false, hy, hk, iteF z⟩
  have hi : isIns C "within" (shpM C dx (codeAt 0 s)) := ⟨rfl, rfl⟩
  have hj : isIns C "within" (shpM C dy (codeAt 0 t)) := ⟨rfl, rfl⟩
  unfold dRet
  simp only [dAnd, dAndV, dAsg, dC, dCB, dCall, dCallX, dChain, dCons, dDrop, dErr1, dIf, dIfS, dIsi, dLst, dNext, dNil, dNot, dNotV, dOp, dOr, dOrV, dPar, dRet, dRetN, dRetS, dSeq, dSet, dSl, dTest, dTup, dVar, dgCons, dgName, dgNil, dgTup, dNeg, endsD, xcOf, dFz, startD, wipeD, List.getElem?_cons_zero, List.getElem?_cons_succ, List.set_cons_zero, List.set_cons_succ, List.map_cons, List.map_nil, List.cons_append, List.nil_append, List.length_cons, List.length_nil, List.replicate]
  refine ⟨.ref C, true, .ins (m := "") ⟨b, _, rfl, eb, rfl, rfl⟩ xc.cd.cl ic.ha ic.hn ic.htk ic.hm, ic.kc, iteT ?_⟩
  refine ⟨a, _, rfl, ea, hi, a, b, dx, dy, s, t, rfl, ea, eb, f1, fun r hr => ?_⟩
  cases r with
  | false =>
    obtain ⟨v, h1, h2, h3⟩ := hr.2 rfl
    exact iteF (z false ⟨fun e => (by cases e), fun _ => ⟨v, h1, by rw [h2, h3]; simp⟩⟩)
  | true =>
    refine iteT ⟨b, _, rfl, eb, hj, b, a, dy, dx, t, s, rfl, eb, ea, f2, fun r2 hr2 => z r2 ⟨fun e v hv => ?_, fun e => ?_⟩⟩
    · have h1 := hr.1 rfl v hv
      have h2 := hr2.1 e v hv
      cases e1 : has s v with
      | true => exact (h1 e1).symm
      | false =>
        cases e2 : has t v with
        | true => rw [h2 e2] at e1; cases e1
        | false => rfl
    · obtain ⟨v, h1, h2, h3⟩ := hr2.2 e
      exact ⟨v, h1, by rw [h2, h3]; simp⟩
end
end Tx

namespace Tx
open PySem PySem.Spec PyProof.Rows L2
/-! ## a[i], b[j] = (x, y) -/
def dSubs2 (to1 ti1 to2 ti2 te : DTE) (rd : RMS) (D : DEnds) (ρ : DS) (ω : Wd) : Prop := te ρ ω (fun v ω1 => ∃ x y, v = .tuple [x, y] ∧ to1 ρ ω1 (fun o ω2 => ti1 ρ ω2 (fun i ω3 => rd o i x ω3 fun ω4 =>
  to2 ρ ω4 (fun o2 ω5 => ti2 ρ ω5 (fun i2 ω6 => rd o2 i2 y ω6 fun ω7 => D.nx ρ ω7) (xcOf D ρ)) (xcOf D ρ)) (xcOf D ρ)) (xcOf D ρ)) (xcOf D ρ)
theorem ds_subs2 {W : WX} {X : Cx} {K : PySem.W.Frag} {o1 i1 o2 i2 e : Expr} {to1 ti1 to2 ti2 te : DTE} {rd : RMS} {p1 p2 pt pos : Pos} {kt : Nat} (hc : X.calm = true) (ho1 : DE W X K o1 to1) (hi1 : DE W X K i1 ti1) (ho2 : DE W X K o2 to2) (hi2 : DE W X K i2 ti2) (he : DE W X K e te) (hset : PSet X (liftSt K rd)) (hK : X.K = K)
    (ha1 : ∀ v, assign (.Subscript o1 i1 p1) X.env v = (do
      let ov ← holding [v] (eval o1 X.env)
      let iv ← holding [v, ov] (eval i1 X.env)
      standAt p1
      holding [v, ov, iv] (setItem ov iv v)
      release [v, ov, iv] []) := by intro _; rfl)
    (ha2 : ∀ v, assign (.Subscript o2 i2 p2) X.env v = (do
      let ov ← holding [v] (eval o2 X.env)
      let iv ← holding [v, ov] (eval i2 X.env)
      standAt p2
      holding [v, ov, iv] (setItem ov iv v)
      release [v, ov, iv] []) := by intro _; rfl)
    (hs : swapsWithSole [.Tuple [.Subscript o1 i1 p1, .Subscript o2 i2 p2] kt pt] e pos.line X.env = pure false := by rfl) (hw : swappedStores [.Tuple [.Subscript o1 i1 p1, .Subscript o2 i2 p2] kt pt] e X.env = pure none := by rfl)
    (h1 : (assignEach [.Tuple [.Subscript o1 i1 p1, .Subscript o2 i2 p2] kt pt] X.env).map (·.2) = [assign (.Tuple [.Subscript o1 i1 p1, .Subscript o2 i2 p2] kt pt) X.env] := by rfl)
    (hn : (assignEach [Expr.Subscript o1 i1 p1, .Subscript o2 i2 p2] X.env).length = 2 := by rfl) (hst : (assignEach [Expr.Subscript o1 i1 p1, .Subscript o2 i2 p2] X.env).findIdx? (·.1) = none := by rfl)
    (hs1 : (assignEach [Expr.Subscript o1 i1 p1, .Subscript o2 i2 p2] X.env).map (·.2) = assign (.Subscript o1 i1 p1) X.env :: (assignEach [Expr.Subscript o2 i2 p2] X.env).map (·.2) := by rfl)
    (hs2 : (assignEach [Expr.Subscript o2 i2 p2] X.env).map (·.2) = assign (.Subscript o2 i2 p2) X.env :: (assignEach [] X.env).map (·.2) := by rfl) :
    DSt W X K (.Assign [.Tuple [.Subscript o1 i1 p1, .Subscript o2 i2 p2] kt pt] e pos) (dSubs2 to1 ti1 to2 ti2 te rd) := by
  subst hK
  obtain ⟨ro1, po1, ko1⟩ := ho1
  obtain ⟨ri1, pi1, ki1⟩ := hi1
  obtain ⟨ro2, po2, ko2⟩ := ho2
  obtain ⟨ri2, pi2, ki2⟩ := hi2
  obtain ⟨re, pe, ke⟩ := he
  refine ⟨_, ps_asg pe (pg_tup hc (pgs_cons (pg_sub po1 pi1 hset ha1) (pgs_cons (pg_sub po2 pi2 hset ha2) pgs_nil hs2) hs1) hn hst) hs hw h1, fun D DD σ H J ω ρ w s cs z => ke σ H J ω ρ _ _ _ w s (fun r ω1 v J1 H1 z1 g1 w1 rp => ?_) (cs.x s) z⟩
  obtain ⟨x, y, rfl, z1⟩ := z1
  cases rp with
  | tup hsq hal =>
  cases hal with
  | cons r1 r2 =>
  cases r2 with
  | cons r2 r3 =>
  cases r3
  refine ⟨_, _, rfl, Same.sqT w1.jh hsq, rfl, _, _, rfl, ?_⟩
  refine ko1 σ H1 J1 ω1 ρ _ _ _ w1 (s.mono g1.jj) (fun d2 ω2 v2 J2 H2 z2 g2 w2 rp2 => ?_) ((cs.x s).step g1) z1
  refine ki1 σ H2 J2 ω2 ρ _ _ _ w2 (s.mono (g1.trans g2).jj) (fun d3 ω3 v3 J3 H3 z3 g3 w3 rp3 => ?_) ((cs.x s).step (g1.trans g2)) z2
  refine ⟨J3, ω3, d2, d3, x, _, w3, rp_mono g3.jj _ _ rp2, rp3, rp_mono (g2.trans g3).jj _ _ r1, fun ω4 J4 H4 z4 g4 w4 => ?_, z3⟩
  have ga := ((g1.trans g2).trans g3).trans g4
  refine ⟨_, _, rfl, ?_⟩
  refine ko2 σ H4 J4 ω4 ρ _ _ _ w4 (s.mono ga.jj) (fun d5 ω5 v5 J5 H5 z5 g5 w5 rp5 => ?_) ((cs.x s).step ga) z4
  refine ki2 σ H5 J5 ω5 ρ _ _ _ w5 (s.mono (ga.trans g5).jj) (fun d6 ω6 v6 J6 H6 z6 g6 w6 rp6 => ?_) ((cs.x s).step (ga.trans g5)) z5
  refine ⟨J6, ω6, d5, d6, y, _, w6, rp_mono g6.jj _ _ rp5, rp6, rp_mono ((((g2.trans g3).trans g4).trans g5).trans g6).jj _ _ r2, fun ω7 J7 H7 z7 g7 w7 => ?_, z6⟩
  have gb := ((ga.trans g5).trans g6).trans g7
  exact ⟨rfl, cs.nx _ _ _ _ _ z7 gb w7 (s.mono gb.jj)⟩
end Tx

namespace Tx
open PySem PySem.Spec PyProof.Rows L2
/-! ## k17: the pool of shapes, plain -/
structure OkS (s : Shp) : Prop where
  low : s.low
  many : s.many ≤ 36
  nests : s.nests ≤ 12
/-- three names for shapes, and what each is by the law: S is the shape at an address, N its node's list -/
structure Pool (C : Addr) (ω : Wd) (p n : Addr) (ms : List Addr) (S : Addr → Shp) (N : Addr → Addr) : Prop where
  hp : ω p = some (.lst (ms.map refD))
  hn : ω n = some (.lst ((ms.map N).map refD))
  len : ms.length = 3
  shp : ∀ m ∈ ms, ∃ dx, ω m = some (shpM C dx (codeAt 0 (S m)))
  nod : ∀ m ∈ ms, ω (N m) = some (.lst [nodeD (S m)])
  inj : ∀ m ∈ ms, ∀ m' ∈ ms, N m = N m' → m = m'
  ok : ∀ m ∈ ms, OkS (S m)
  apart : p ≠ n ∧ ∀ m ∈ ms, N m ≠ p ∧ N m ≠ n
section
variable {C p n : Addr} {ω ω' : Wd} {ms : List Addr} {S : Addr → Shp} {N : Addr → Addr}
theorem Pool.keep (h : Pool C ω p n ms S N) (k : ∀ a m, ω a = some m → ω' a = some m) : Pool C ω' p n ms S N :=
  ⟨k _ _ h.hp, k _ _ h.hn, h.len, fun m hm => by obtain ⟨dx, e⟩ := h.shp m hm; exact ⟨dx, k _ _ e⟩, fun m hm => k _ _ (h.nod m hm), h.inj, h.ok, h.apart⟩
/-- a second name -/
theorem Pool.alias (h : Pool C ω p n ms S N) {k : Nat} {m : Addr} (hm : m ∈ ms) : Pool C (updW (updW ω p (.lst ((ms.set k m).map refD))) n (.lst (((ms.set k m).map N).map refD))) p n (ms.set k m) S N := by
  have sub : ∀ x ∈ ms.set k m, x ∈ ms := fun x hx => by
    rcases List.mem_or_eq_of_mem_set hx with hx | rfl
    · exact hx
    · exact hm
  have up : ∀ a x, a ≠ p → a ≠ n → ω a = some x → updW (updW ω p (.lst ((ms.set k m).map refD))) n (.lst (((ms.set k m).map N).map refD)) a = some x := fun a x h1 h2 e => by rw [updW_ne h2, updW_ne h1]; exact e
  have ins : ∀ x ∈ ms, x ≠ p ∧ x ≠ n := fun x hx => by
    obtain ⟨dx, e⟩ := h.shp x hx
    exact ⟨fun z => (by rw [z, h.hp] at e; cases e), fun z => (by rw [z, h.hn] at e; cases e)⟩
  refine ⟨by rw [updW_ne h.apart.1, updW_same], updW_same, by rw [List.length_set]; exact h.len, fun x hx => ?_, fun x hx => ?_, fun x hx y hy => h.inj x (sub x hx) y (sub y hy), fun x hx => h.ok x (sub x hx), h.apart.1, fun x hx => h.apart.2 x (sub x hx)⟩
  · obtain ⟨dx, e⟩ := h.shp x (sub x hx)
    obtain ⟨n1, n2⟩ := ins x (sub x hx)
    exact ⟨dx, up _ _ n1 n2 e⟩
  · obtain ⟨n1, n2⟩ := h.apart.2 x (sub x hx)
    exact up _ _ n1 n2 (h.nod x (sub x hx))
/-- |= or &= -/
theorem Pool.put (h : Pool C ω p n ms S N) {m dx : Addr} {s' : Shp} (hm : m ∈ ms) (ok : OkS s') : Pool C (updW (updW ω m (shpM C dx (codeAt 0 s'))) (N m) (.lst [nodeD s'])) p n ms (fun a => if a = m then s' else S a) N := by
  have ins : ∀ x ∈ ms, x ≠ p ∧ x ≠ n := fun x hx => by
    obtain ⟨dx, e⟩ := h.shp x hx
    exact ⟨fun z => (by rw [z, h.hp] at e; cases e), fun z => (by rw [z, h.hn] at e; cases e)⟩
  have mix : ∀ x ∈ ms, ∀ y ∈ ms, x ≠ N y := fun x hx y hy z => by
    obtain ⟨dx, e⟩ := h.shp x hx
    rw [z, h.nod y hy] at e
    cases e
  have up : ∀ a x, a ≠ m → a ≠ N m → ω a = some x → updW (updW ω m (shpM C dx (codeAt 0 s'))) (N m) (.lst [nodeD s']) a = some x := fun a x h1 h2 e => by rw [updW_ne h2, updW_ne h1]; exact e
  obtain ⟨mp, mn⟩ := ins m hm
  obtain ⟨np, nn⟩ := h.apart.2 m hm
  refine ⟨up _ _ (Ne.symm mp) (Ne.symm np) h.hp, up _ _ (Ne.symm mn) (Ne.symm nn) h.hn, h.len, fun x hx => ?_, fun x hx => ?_, h.inj, fun x hx => ?_, h.apart⟩
  · by_cases e : x = m
    · rw [e, if_pos rfl, updW_ne (mix m hm m hm)]
      exact ⟨dx, updW_same⟩
    · obtain ⟨d2, e2⟩ := h.shp x hx
      rw [if_neg e]
      exact ⟨d2, up _ _ e (mix x hx m hm) e2⟩
  · by_cases e : x = m
    · rw [e, if_pos rfl]
      exact updW_same
    · rw [if_neg e]
      exact up _ _ (Ne.symm (mix m hm x hx)) (fun z => e (h.inj x hx m hm z)) (h.nod x hx)
  · by_cases e : x = m
    · show OkS (if x = m then s' else S x)
      rw [if_pos e]
      exact ok
    · show OkS (if x = m then s' else S x)
      rw [if_neg e]
      exact h.ok x hx
/-- a new shape under a name -/
theorem Pool.new (h : Pool C ω p n ms S N) {k : Nat} {m n' : Addr} {s' : Shp} (kp : ∀ a x, a ≠ p → a ≠ n → ω a = some x → ω' a = some x) (e1 : ∃ dx, ω' m = some (shpM C dx (codeAt 0 s'))) (e2 : ω' n' = some (.lst [nodeD s'])) (c1 : ω m = none) (c2 : ω n' = none) (ok : OkS s')
    (ep : ω' p = some (.lst ((ms.map refD).set k (refD m)))) (en : ω' n = some (.lst (((ms.map N).map refD).set k (refD n')))) :
    Pool C ω' p n (ms.set k m) (fun a => if a = m then s' else S a) (fun a => if a = m then n' else N a) := by
  have ins : ∀ x ∈ ms, x ≠ p ∧ x ≠ n := fun x hx => by
    obtain ⟨dx, e⟩ := h.shp x hx
    exact ⟨fun z => (by rw [z, h.hp] at e; cases e), fun z => (by rw [z, h.hn] at e; cases e)⟩
  have f1 : ∀ x ∈ ms, x ≠ m := fun x hx z => by
    obtain ⟨dx, e⟩ := h.shp x hx
    rw [z, c1] at e
    cases e
  have f2 : ∀ x ∈ ms, N x ≠ n' := fun x hx z => by
    have e := h.nod x hx
    rw [z, c2] at e
    cases e
  have f3 : n' ≠ p ∧ n' ≠ n := ⟨fun z => (by rw [z, h.hp] at c2; cases c2), fun z => (by rw [z, h.hn] at c2; cases c2)⟩
  have sub : ∀ x ∈ ms.set k m, x = m ∨ (x ∈ ms ∧ x ≠ m) := fun x hx => by
    rcases List.mem_or_eq_of_mem_set hx with hx | rfl
    · exact .inr ⟨hx, f1 x hx⟩
    · exact .inl rfl
  have eN : (ms.set k m).map (fun a => if a = m then n' else N a) = (ms.map N).set k n' := by
    rw [List.map_set, if_pos rfl]
    congr 1
    exact List.map_congr_left fun x hx => if_neg (f1 x hx)
  refine ⟨by rw [ep, List.map_set], by rw [en, eN, List.map_set], by rw [List.length_set]; exact h.len, fun x hx => ?_, fun x hx => ?_, fun x hx y hy z => ?_, fun x hx => ?_, h.apart.1, fun x hx => ?_⟩
  · rcases sub x hx with rfl | ⟨g1, g2⟩
    · simp only [if_true]
      exact e1
    · obtain ⟨d2, e3⟩ := h.shp x g1
      obtain ⟨n1, n2⟩ := ins x g1
      rw [if_neg g2]
      exact ⟨d2, kp _ _ n1 n2 e3⟩
  · rcases sub x hx with rfl | ⟨g1, g2⟩
    · simp only [if_true]
      exact e2
    · simp only [if_neg g2]
      exact kp _ _ (h.apart.2 x g1).1 (h.apart.2 x g1).2 (h.nod x g1)
  · rcases sub x hx with rfl | ⟨g1, g2⟩
    · rcases sub y hy with rfl | ⟨g3, g4⟩
      · rfl
      · simp only [if_true, if_neg g4] at z
        exact absurd z.symm (f2 y g3)
    · rcases sub y hy with rfl | ⟨g3, g4⟩
      · simp only [if_true, if_neg g2] at z
        exact absurd z (f2 x g1)
      · simp only [if_neg g2, if_neg g4] at z
        exact h.inj x g1 y g3 z
  · rcases sub x hx with rfl | ⟨g1, g2⟩
    · simp only [if_true]
      exact ok
    · simp only [if_neg g2]
      exact h.ok x g1
  · rcases sub x hx with rfl | ⟨g1, g2⟩
    · simp only [if_true]
      exact f3
    · simp only [if_neg g2]
      exact h.apart.2 x g1
end
end Tx

namespace Tx
open PySem PySem.Spec PyProof.Rows L2
/-! ## k17: the state of a script, plain: pool, nodes, held -/
/-- a shape's cell -/
def At (C : Addr) (ω : Wd) (m : Addr) (s : Shp) : Prop := ∃ dx, ω m = some (shpM C dx (codeAt 0 s))
section
variable {C m m' dx : Addr} {ω ω' : Wd} {s : Shp} {x : MO}
theorem At.keep (h : At C ω m s) (k : ∀ a m, ω a = some m → ω' a = some m) : At C ω' m s := by
  obtain ⟨dx, e⟩ := h
  exact ⟨dx, k _ _ e⟩
theorem At.ne (h : At C ω m s) (hn : ω m' = none) : m ≠ m' := fun z => by
  obtain ⟨dx, e⟩ := h
  rw [z, hn] at e
  cases e
theorem At.fresh (h : At C ω m s) (hn : ω m' = none) : At C (updW ω m' x) m s := by
  have := h.ne hn
  obtain ⟨dx, e⟩ := h
  exact ⟨dx, by rw [updW_ne this]; exact e⟩
theorem At.new : At C (updW ω m (shpM C dx (codeAt 0 s))) m s := ⟨dx, updW_same⟩
theorem At.ins (h : At C ω m s) (n : Str) (hn : (n == ("code" : Str)) = false) : InsD C n ω (refD m) := by
  obtain ⟨dx, e⟩ := h
  refine ⟨m, _, rfl, e, rfl, ?_⟩
  simp [List.lookup, hn]
theorem At.lst {xs : List PyData} (h : At C ω m s) (hl : ω m' = some (.lst xs)) : m ≠ m' := fun z => by
  obtain ⟨dx, e⟩ := h
  rw [z, hl] at e
  cases e
theorem At.bag (h : At C ω m s) (hl : ω m' = some .bag) : m ≠ m' := fun z => by
  obtain ⟨dx, e⟩ := h
  rw [z, hl] at e
  cases e
end
structure St (C : Addr) (ω : Wd) (b p n h : Addr) (ms : List Addr) (S : Addr → Shp) (N : Addr → Addr) (hs : List (Addr × Shp)) : Prop where
  pool : Pool C ω p n ms S N
  bag : ω b = some .bag
  held : ω h = some (.lst (hs.map fun x => .tuple [refD x.1, nodeD x.2]))
  at_ : ∀ x ∈ hs, At C ω x.1 x.2
  ok : ∀ x ∈ hs, OkS x.2
  new_ : ∀ x ∈ hs, x.1 ∉ ms
  hp : h ≠ p
  hn : h ≠ n
  hN : ∀ m ∈ ms, N m ≠ h
section
variable {C b p n h m n' : Addr} {ω ω' : Wd} {ms : List Addr} {S : Addr → Shp} {N : Addr → Addr} {hs hs2 : List (Addr × Shp)} {s' : Shp} {k : Nat} {x : MO}
theorem St.keep (st : St C ω b p n h ms S N hs) (k : ∀ a m, ω a = some m → ω' a = some m) : St C ω' b p n h ms S N hs :=
  ⟨st.pool.keep k, k _ _ st.bag, k _ _ st.held, fun x hx => (st.at_ x hx).keep k, st.ok, st.new_, st.hp, st.hn, st.hN⟩
theorem kept (hn : ω m = none) : ∀ a y, ω a = some y → updW ω m x a = some y := fun a y e => by
  rw [updW_ne fun z => by rw [z, hn] at e; cases e]
  exact e
theorem St.fresh (st : St C ω b p n h ms S N hs) (hn : ω m = none) : St C (updW ω m x) b p n h ms S N hs := st.keep (kept hn)
theorem St.out (st : St C ω b p n h ms S N hs) (hn : ω m = none) : m ∉ ms := fun z => by
  obtain ⟨dx, e⟩ := st.pool.shp m z
  rw [hn] at e
  cases e
theorem St.at_k (st : St C ω b p n h ms S N hs) (hm : m ∈ ms) : At C ω m (S m) := st.pool.shp m hm
/-- held grows -/
theorem St.ext (st : St C ω b p n h ms S N hs) (e : ∀ x ∈ hs2, At C ω x.1 x.2 ∧ OkS x.2 ∧ x.1 ∉ ms) : St C (updW ω h (.lst ((hs.map fun x => .tuple [refD x.1, nodeD x.2]) ++ hs2.map fun x => .tuple [refD x.1, nodeD x.2]))) b p n h ms S N (hs ++ hs2) := by
  have up : ∀ a y, a ≠ h → ω a = some y → updW ω h (.lst ((hs.map fun x => PyData.tuple [refD x.1, nodeD x.2]) ++ hs2.map fun x => .tuple [refD x.1, nodeD x.2])) a = some y := fun a y h1 e => by rw [updW_ne h1]; exact e
  have ua : ∀ (a : Addr) (s : Shp), At C ω a s → At C (updW ω h (.lst ((hs.map fun x => PyData.tuple [refD x.1, nodeD x.2]) ++ hs2.map fun x => .tuple [refD x.1, nodeD x.2]))) a s := fun a s ha => by
    have := ha.lst st.held
    obtain ⟨dx, e⟩ := ha
    exact ⟨dx, up _ _ this e⟩
  have pl := st.pool
  refine ⟨⟨up _ _ (Ne.symm st.hp) pl.hp, up _ _ (Ne.symm st.hn) pl.hn, pl.len, fun m hm => ua m _ (pl.shp m hm), fun m hm => up _ _ (st.hN m hm) (pl.nod m hm), pl.inj, pl.ok, pl.apart⟩, ?_, by rw [updW_same, List.map_append], fun x hx => ?_, fun x hx => ?_, fun x hx => ?_, st.hp, st.hn, st.hN⟩
  · exact up _ _ (fun z => by have := st.bag; rw [z, st.held] at this; cases this) st.bag
  · rcases List.mem_append.mp hx with hx | hx
    · exact ua _ _ (st.at_ x hx)
    · exact ua _ _ (e x hx).1
  · rcases List.mem_append.mp hx with hx | hx
    · exact st.ok x hx
    · exact (e x hx).2.1
  · rcases List.mem_append.mp hx with hx | hx
    · exact st.new_ x hx
    · exact (e x hx).2.2
/-- a second name -/
theorem St.alias (st : St C ω b p n h ms S N hs) (hm : m ∈ ms) : St C (updW (updW ω p (.lst ((ms.map refD).set k (refD m)))) n (.lst (((ms.map N).map refD).set k (refD (N m))))) b p n h (ms.set k m) S N hs := by
  have pl := st.pool.alias (k := k) hm
  rw [List.map_set, List.map_set, List.map_set] at pl
  have up : ∀ a x, a ≠ p → a ≠ n → ω a = some x → updW (updW ω p (.lst ((ms.map refD).set k (refD m)))) n (.lst (((ms.map N).map refD).set k (refD (N m)))) a = some x := fun a x h1 h2 e => by rw [updW_ne h2, updW_ne h1]; exact e
  have sub : ∀ x ∈ ms.set k m, x ∈ ms := fun x hx => by
    rcases List.mem_or_eq_of_mem_set hx with hx | rfl
    · exact hx
    · exact hm
  refine ⟨pl, up _ _ (fun z => by have := st.bag; rw [z, st.pool.hp] at this; cases this) (fun z => by have := st.bag; rw [z, st.pool.hn] at this; cases this) st.bag, up _ _ st.hp st.hn st.held, fun x hx => ?_, st.ok, fun x hx z => st.new_ x hx (sub _ z), st.hp, st.hn, fun x hx => st.hN x (sub x hx)⟩
  have h1 := (st.at_ x hx).lst st.pool.hp
  have h2 := (st.at_ x hx).lst st.pool.hn
  obtain ⟨dx, e⟩ := st.at_ x hx
  exact ⟨dx, up _ _ h1 h2 e⟩
/-- |= or &= -/
theorem St.put (st : St C ω b p n h ms S N hs) {dx : Addr} (hm : m ∈ ms) (ok : OkS s') : St C (updW (updW ω m (shpM C dx (codeAt 0 s'))) (N m) (.lst [nodeD s'])) b p n h ms (fun a => if a = m then s' else S a) N hs := by
  have pl := st.pool.put (dx := dx) hm ok
  have up : ∀ a x, a ≠ m → a ≠ N m → ω a = some x → updW (updW ω m (shpM C dx (codeAt 0 s'))) (N m) (.lst [nodeD s']) a = some x := fun a x h1 h2 e => by rw [updW_ne h2, updW_ne h1]; exact e
  refine ⟨pl, up _ _ (fun z => (st.at_k hm).bag st.bag z.symm) (fun z => by have := st.bag; rw [z, st.pool.nod m hm] at this; cases this) st.bag, up _ _ (fun z => (st.at_k hm).lst st.held z.symm) (fun z => st.hN m hm z.symm) st.held, fun x hx => ?_, st.ok, st.new_, st.hp, st.hn, st.hN⟩
  have h1 : x.1 ≠ m := fun z => st.new_ x hx (z ▸ hm)
  have h2 := (st.at_ x hx).lst (st.pool.nod m hm)
  obtain ⟨dx, e⟩ := st.at_ x hx
  exact ⟨dx, up _ _ h1 h2 e⟩
/-- a new shape under a name -/
theorem St.new (st : St C ω b p n h ms S N hs) (kp : ∀ a x, a ≠ p → a ≠ n → ω a = some x → ω' a = some x) (e1 : At C ω' m s') (e2 : ω' n' = some (.lst [nodeD s'])) (g1 : ω m = none) (g2 : ω n' = none) (ok : OkS s')
    (ep : ω' p = some (.lst ((ms.map refD).set k (refD m)))) (en : ω' n = some (.lst (((ms.map N).map refD).set k (refD n')))) :
    St C ω' b p n h (ms.set k m) (fun a => if a = m then s' else S a) (fun a => if a = m then n' else N a) hs := by
  have pl := st.pool.new kp e1 e2 g1 g2 ok ep en
  refine ⟨pl, kp _ _ (fun z => by have := st.bag; rw [z, st.pool.hp] at this; cases this) (fun z => by have := st.bag; rw [z, st.pool.hn] at this; cases this) st.bag, kp _ _ st.hp st.hn st.held, fun x hx => ?_, st.ok, fun x hx z => ?_, st.hp, st.hn, fun x hx => ?_⟩
  · have h1 := (st.at_ x hx).lst st.pool.hp
    have h2 := (st.at_ x hx).lst st.pool.hn
    obtain ⟨dx, e⟩ := st.at_ x hx
    exact ⟨dx, kp _ _ h1 h2 e⟩
  · rcases List.mem_or_eq_of_mem_set z with z | z
    · exact st.new_ x hx z
    · exact (st.at_ x hx).ne g1 z
  · by_cases e : x = m
    · rw [if_pos e]
      intro z
      rw [z, st.held] at g2
      cases g2
    · rw [if_neg e]
      rcases List.mem_or_eq_of_mem_set hx with hx | hx
      · exact st.hN x hx
      · exact absurd hx e
end
end Tx

namespace Tx
open PySem PySem.Spec PyProof.Rows L2
/-! ## k17: expressions that make a shape; held grows -/
/-- makes a shape that stands under no name -/
def Mk (C : Addr) (ω0 : Wd) (F : Addr → Prop) (ρ : DS) (E : DTE) (s1 : Shp) : Prop := ∀ (ω : Wd) (q : DQ) (x : DXK), SubW ω0 ω → (∀ m ω', SubW ω ω' → At C ω' m s1 → F m → q (refD m) ω') → E ρ ω q x
def Nm (ω0 : Wd) (ρ : DS) (E : DTE) (d : PyData) : Prop := ∀ (ω : Wd) (q : DQ) (x : DXK), SubW ω0 ω → q d ω → E ρ ω q x
theorem SubW.id {ω : Wd} : SubW ω ω := fun _ _ e => e
theorem SubW.no {a b : Wd} (h : SubW a b) {m : Addr} (e : b m = none) : a m = none := by
  cases q : a m with
  | none => rfl
  | some x => rw [h m x q] at e; cases e
abbrev orE (K : PySem.W.Frag) (C : Addr) (a b : DTE) : DTE := dOpM (rmOwn C "__or__" (RgtOk K C Operator.BitOr.info.snd) (dsBinS .or C)) a b
abbrev andE (K : PySem.W.Frag) (C : Addr) (a b : DTE) : DTE := dOpM (rmOwn C "__and__" (RgtOk K C Operator.BitAnd.info.snd) (dsBinS .and C)) a b
abbrev subE (K : PySem.W.Frag) (C : Addr) (a b : DTE) : DTE := dOpM (rmOwn C "__sub__" (RgtOk K C Operator.Sub.info.snd) (dsBinS .less C)) a b
section
variable {K : PySem.W.Frag} {C a c : Addr} {ω0 : Wd} {F : Addr → Prop} {ρ : DS} {s t : Shp} {i j : Nat} {d : PyData}
theorem nm_var (h : ρ[i]? = some (some d)) : Nm ω0 ρ (dVar i) d := fun ω q x _ z => by
  unfold dVar
  simp only [h]
  exact z
theorem nm_node1 {N : PyData} {w : Str} (h : ρ[i]? = some (some N)) : Nm ω0 ρ (dTup (dCons (dC (.str w)) (dCons (dVar i) dNil))) (.tuple [.str w, N]) := fun ω q x _ z => by
  have : 2 ≤ sizeLine := by decide
  unfold dTup dCons dVar dNil dC
  simp only [h]
  exact ⟨this, z⟩
theorem nm_node2 {N M : PyData} {w : Str} (h : ρ[i]? = some (some N)) (g : ρ[j]? = some (some M)) : Nm ω0 ρ (dTup (dCons (dC (.str w)) (dCons (dVar i) (dCons (dVar j) dNil)))) (.tuple [.str w, N, M]) := fun ω q x _ z => by
  have : 3 ≤ sizeLine := by decide
  unfold dTup dCons dVar dNil dC
  simp only [h, g]
  exact ⟨this, z⟩
theorem mk_or (e1 : At C ω0 a s) (e2 : At C ω0 c t) (ls : s.len ≤ 10000) (lt : t.len ≤ 10000) (out : ∀ m, ω0 m = none → F m) (ha : ρ[i]? = some (some (refD a))) (hc : ρ[j]? = some (some (refD c))) : Mk C ω0 F ρ (orE K C (dVar i) (dVar j)) (.or s t) := fun ω q x sub z => by
  obtain ⟨dx, g1⟩ := e1.keep sub
  obtain ⟨dy, g2⟩ := e2.keep sub
  unfold orE dOpM dVar
  simp only [ha, hc]
  exact ⟨⟨a, _, rfl, g1, rfl, rfl⟩, .inr ⟨"x", c, _, rfl, g2, rfl, rfl⟩, a, c, dx, dy, s, t, rfl, g1, g2, ls, lt, fun m dz hm => z m _ (kept hm) At.new (out m (sub.no hm))⟩
theorem mk_and (e1 : At C ω0 a s) (e2 : At C ω0 c t) (ls : s.len ≤ 10000) (lt : t.len ≤ 10000) (out : ∀ m, ω0 m = none → F m) (ha : ρ[i]? = some (some (refD a))) (hc : ρ[j]? = some (some (refD c))) : Mk C ω0 F ρ (andE K C (dVar i) (dVar j)) (.and s t) := fun ω q x sub z => by
  obtain ⟨dx, g1⟩ := e1.keep sub
  obtain ⟨dy, g2⟩ := e2.keep sub
  unfold andE dOpM dVar
  simp only [ha, hc]
  exact ⟨⟨a, _, rfl, g1, rfl, rfl⟩, .inr ⟨"x", c, _, rfl, g2, rfl, rfl⟩, a, c, dx, dy, s, t, rfl, g1, g2, ls, lt, fun m dz hm => z m _ (kept hm) At.new (out m (sub.no hm))⟩
theorem mk_sub (e1 : At C ω0 a s) (e2 : At C ω0 c t) (ls : s.len ≤ 10000) (lt : t.len ≤ 10000) (out : ∀ m, ω0 m = none → F m) (ha : ρ[i]? = some (some (refD a))) (hc : ρ[j]? = some (some (refD c))) : Mk C ω0 F ρ (subE K C (dVar i) (dVar j)) (.less s t) := fun ω q x sub z => by
  obtain ⟨dx, g1⟩ := e1.keep sub
  obtain ⟨dy, g2⟩ := e2.keep sub
  unfold subE dOpM dVar
  simp only [ha, hc]
  exact ⟨⟨a, _, rfl, g1, rfl, rfl⟩, .inr ⟨"x", c, _, rfl, g2, rfl, rfl⟩, a, c, dx, dy, s, t, rfl, g1, g2, ls, lt, fun m dz hm => z m _ (kept hm) At.new (out m (sub.no hm))⟩
theorem mk_lists (e1 : At C ω0 a s) (ls : s.len ≤ 10000) (out : ∀ m, ω0 m = none → F m) (ha : ρ[i]? = some (some (refD a))) : Mk C ω0 F ρ (dKM C (dsLists C) [] (dCons (dVar i) dNil)) (.lists s) := fun ω q x sub z => by
  obtain ⟨dx, g1⟩ := e1.keep sub
  unfold dKM dCons dNil dVar
  simp only [ha]
  refine ⟨a, dx, codeAt 0 s, rfl, g1, code_ne s, by rw [codeAt_len]; omega, fun m dz hm => ?_⟩
  rw [code_lists]
  exact z m _ (kept hm) At.new (out m (sub.no hm))
theorem mk_nested (e1 : At C ω0 a s) (ls : s.len ≤ 10000) (out : ∀ m, ω0 m = none → F m) (ha : ρ[i]? = some (some (refD a))) : Mk C ω0 F ρ (dKM C (dsNested C) [] (dCons (dVar i) dNil)) (.nested s) := fun ω q x sub z => by
  obtain ⟨dx, g1⟩ := e1.keep sub
  unfold dKM dCons dNil dVar
  simp only [ha]
  refine ⟨a, dx, codeAt 0 s, rfl, g1, code_ne s, by rw [codeAt_len]; omega, fun m dz hm => ?_⟩
  rw [code_nested]
  exact z m _ (kept hm) At.new (out m (sub.no hm))
theorem mk_var (e1 : At C ω0 a s) (ha : ρ[i]? = some (some (refD a))) (out : F a) : Mk C ω0 F ρ (dVar i) s := fun ω q x sub z => by
  unfold dVar
  simp only [ha]
  exact z a ω SubW.id (e1.keep sub) out
/-- ~one | nothing() -/
theorem mk_mixed (e1 : At C ω0 a s) (ls : s.len ≤ 9000) (out : ∀ m, ω0 m = none → F m) (ha : ρ[i]? = some (some (refD a))) : Mk C ω0 F ρ (orE K C (dUnM (rm1 C "__invert__" (dsInvS C)) (dVar i)) (dKM C (dsLeaf C .nothing) [] dNil)) (.or (.not s) .nothing) := fun ω q x sub z => by
  obtain ⟨dx, g1⟩ := e1.keep sub
  unfold orE dOpM dUnM dKM dNil dVar
  simp only [ha]
  refine ⟨⟨a, _, rfl, g1, rfl, rfl⟩, a, dx, s, rfl, g1, by omega, fun m1 d1 h1 => ⟨rfl, fun m2 d2 h2 => ?_⟩⟩
  have n12 : m1 ≠ m2 := fun e => by rw [← e, updW_same] at h2; cases h2
  have g3 : updW (updW ω m1 (shpM C d1 (codeAt 0 (.not s)))) m2 (shpM C d2 [.nothing]) m1 = some (shpM C d1 (codeAt 0 (.not s))) := by rw [updW_ne n12, updW_same]
  refine ⟨⟨m1, _, rfl, g3, rfl, rfl⟩, .inr ⟨"x", m2, _, rfl, updW_same, rfl, rfl⟩, m1, m2, d1, d2, .not s, .nothing, rfl, g3, updW_same, by simp only [Shp.len]; omega, by decide, fun m dz hm => ?_⟩
  have k3 := SubW.trans (SubW.trans (kept (x := shpM C d1 (codeAt 0 (.not s))) h1) (kept (x := shpM C d2 [.nothing]) h2)) (kept (x := shpM C dz (codeAt 0 (.or (.not s) .nothing))) hm)
  exact z m _ k3 At.new (out m (sub.no (SubW.no (SubW.trans (kept (x := shpM C d1 (codeAt 0 (.not s))) h1) (kept (x := shpM C d2 [.nothing]) h2)) hm)))
end
abbrev ext2 (E1 N1 E2 N2 : DTE) : DTS := dDrop (dExtend (dVar 3) (dLstO (dCons (dTup (dCons E1 (dCons N1 dNil))) (dCons (dTup (dCons E2 (dCons N2 dNil))) dNil))))
theorem ext2_ok {C b p n h : Addr} {ω : Wd} {ms : List Addr} {S : Addr → Shp} {N : Addr → Addr} {hs : List (Addr × Shp)} {ρ : DS} {E1 N1 E2 N2 : DTE} {s1 s2 : Shp} {D : DEnds} (st : St C ω b p n h ms S N hs) (h3 : ρ[3]? = some (some (refD h))) (hl : hs.length ≤ 1000)
    (m1 : Mk C ω (fun m => m ∉ ms) ρ E1 s1) (n1 : Nm ω ρ N1 (nodeD s1)) (m2 : Mk C ω (fun m => m ∉ ms) ρ E2 s2) (n2 : Nm ω ρ N2 (nodeD s2)) (o1 : OkS s1) (o2 : OkS s2)
    (nx : ∀ ω' a1 a2, St C ω' b p n h ms S N (hs ++ [(a1, s1), (a2, s2)]) → (∀ a s, At C ω a s → At C ω' a s) → D.nx ρ ω') : ext2 E1 N1 E2 N2 D ρ ω := by
  have two : 2 ≤ sizeLine := by decide
  have sl : 2000 ≤ sizeLine := by decide
  unfold ext2 dDrop dExtend dLstO
  rw [show (dVar 3) = (fun (ρ : DS) (ω : Wd) (q : DQ) (_ : DXK) => match ρ[3]? with | some (some d) => q d ω | _ => False) from rfl]
  simp only [h3]
  refine ⟨h, _, rfl, st.held, ?_⟩
  unfold dCons dTup
  refine m1 ω _ _ SubW.id fun a1 ω1 k1 e1 f1 => ?_
  refine n1 ω1 _ _ k1 ?_
  refine ⟨two, ?_⟩
  refine m2 ω1 _ _ k1 fun a2 ω2 k2 e2 f2 => ?_
  refine n2 ω2 _ _ (k1.trans k2) ?_
  refine ⟨two, two, fun l hl0 => ?_⟩
  have k3 : SubW ω2 (updW ω2 l (.lst [.tuple [refD a1, nodeD s1], .tuple [refD a2, nodeD s2]])) := kept hl0
  have st3 := st.keep ((k1.trans k2).trans k3)
  refine ⟨_, [.tuple [refD a1, nodeD s1], .tuple [refD a2, nodeD s2]], st3.held, rsv_cell updW_same, by rw [List.length_map]; show hs.length + 2 ≤ sizeLine; omega, ?_⟩
  have st4 := st3.ext (hs2 := [(a1, s1), (a2, s2)]) (fun x hx => by
    simp only [List.mem_cons, List.not_mem_nil, or_false] at hx
    rcases hx with rfl | rfl
    · exact ⟨(e1.keep k2).keep k3, o1, f1⟩
    · exact ⟨e2.keep k3, o2, f2⟩)
  refine nx _ a1 a2 st4 fun a s ha => ?_
  have hb := (ha.keep ((k1.trans k2).trans k3))
  have ne := hb.lst st3.held
  obtain ⟨dx, e⟩ := hb
  exact ⟨dx, by rw [updW_ne ne]; exact e⟩
end Tx

namespace Tx
open PySem PySem.Spec PyProof.Rows L2
/-! ## k17: the ways of one step -/
theorem ixN_n {n j : Nat} (h : j < n) : ixN n ((j : Nat) : Int) = some j := by
  unfold ixN
  rw [if_pos (by omega), if_pos (by omega)]
  simp
theorem atI_n {xs : List PyData} {j : Nat} {d : PyData} (h : xs[j]? = some d) : atI xs ((j : Nat) : Int) = some d := by
  have := (List.getElem?_eq_some_iff.mp h).1
  unfold atI
  rw [ixN_n this]
  exact h
def putS (C : Addr) (nm word : Str) (w : Wo) : DTS := dSeq (dAug 7 (dVar 8) (rmOwn C nm (fun _ _ => True) (dsIorS w C)))
  (dSetS (dOp ixD (dVar 2) (dVar 5)) (dC (.int 0)) (dTup (dCons (dC (.str word)) (dCons (dVar 9) (dCons (dVar 10) dNil)))) rsList)
abbrev ltT (m : Int) : DTT := dTest (dOp (intD (fun _ _ => True) fun i j => PyData.bool (decide (i < j))) (dVar 4) (dC (.int m)))
abbrev node1 (w : Str) (i : Nat) : DTE := dTup (dCons (dC (.str w)) (dCons (dVar i) dNil))
abbrev node2 (w : Str) (i j : Nat) : DTE := dTup (dCons (dC (.str w)) (dCons (dVar i) (dCons (dVar j) dNil)))
abbrev nodeM : DTE := dTup (dCons (dC (.str "or")) (dCons (dTup (dCons (dC (.str "not")) (dCons (dVar 9) dNil))) (dCons (dTup (dCons (dC (.str "nothing")) dNil)) dNil)))
abbrev mixE (K : PySem.W.Frag) (C : Addr) : DTE := orE K C (dUnM (rm1 C "__invert__" (dsInvS C)) (dVar 7)) (dKM C (dsLeaf C .nothing) [] dNil)
abbrev lstE (C : Addr) : DTE := dKM C (dsLists C) [] (dCons (dVar 7) dNil)
abbrev nstE (C : Addr) : DTE := dKM C (dsNested C) [] (dCons (dVar 7) dNil)
def way1 (K : PySem.W.Frag) (C : Addr) : DTS := dSeq (dSet 11 (mixE K C)) (dSeq (ext2 (lstE C) (node1 "lists" 9) (nstE C) (node1 "nested" 9)) (dSeq (ext2 (dVar 11) nodeM (orE K C (dVar 7) (dVar 8)) (node2 "or" 9 10))
  (dSeq (ext2 (andE K C (dVar 7) (dVar 8)) (node2 "and" 9 10) (subE K C (dVar 8) (dVar 7)) (node2 "less" 10 9)) (dIfS (ltT 3) (putS C "__ior__" "or" .or) (putS C "__iand__" "and" .and)))))
section
variable {K : PySem.W.Frag} {C b p n h o t : Addr} {ω : Wd} {ms : List Addr} {S : Addr → Shp} {N : Addr → Addr} {hs : List (Addr × Shp)} {D : DEnds} {s u : Shp} {k j : Nat} {x4 x11 x12 x13 : Option PyData}
theorem St.out' (st : St C ω b p n h ms S N hs) : ∀ m, ω m = none → m ∉ ms := fun _ h => st.out h
theorem OkS.len {s : Shp} (h : OkS s) : s.len ≤ 72 := by have := h.many; have := len_many s; omega
theorem put_ok {w : Wo} {nm word : Str} (hw : nodeD (w.shp s u) = .tuple [.str word, nodeD s, nodeD u]) (hnm : (nm == ("code" : Str)) = false) (st : St C ω b p n h ms S N hs) (hk : ms[k]? = some o) (hj : ms[j]? = some t) (es : S o = s) (eu : S t = u) (ok : OkS (w.shp s u))
    (nx : ∀ ρ' ω' S', St C ω' b p n h ms S' N hs → D.nx ρ' ω') : putS C nm word w D [some (refD b), some (refD p), some (refD n), some (refD h), x4, some (.int ((k : Nat) : Int)), some (.int ((j : Nat) : Int)), some (refD o), some (refD t), some (nodeD s), some (nodeD u), x11, x12, x13] ω := by
  have three : 3 ≤ sizeLine := by decide
  have mo := List.mem_of_getElem? hk
  have mt := List.mem_of_getElem? hj
  have ls := (st.pool.ok o mo).len
  have lt := (st.pool.ok t mt).len
  have i1 := (st.at_k mo).ins nm hnm
  obtain ⟨dx, e1⟩ := st.at_k mo
  obtain ⟨dy, e2⟩ := st.at_k mt
  have en : updW ω o (shpM C dx (codeAt 0 (w.shp s u))) n = some (.lst ((ms.map N).map refD)) := by
    rw [updW_ne fun z => (st.at_k mo).lst st.pool.hn z.symm]
    exact st.pool.hn
  have ek : updW ω o (shpM C dx (codeAt 0 (w.shp s u))) (N o) = some (.lst [nodeD s]) := by
    rw [updW_ne fun z => (st.at_k mo).lst (st.pool.nod o mo) z.symm, ← es]
    exact st.pool.nod o mo
  have stp := st.put (s' := w.shp s u) (dx := dx) mo ok
  rw [es] at e1 ls
  rw [eu] at e2 lt
  refine ⟨i1, trivial, o, t, dx, dy, s, u, rfl, e1, e2, by omega, by omega, ?_⟩
  refine ⟨three, ?_⟩
  refine ixD_cell en (d := refD (N o)) (atI_n (by rw [List.map_map, List.getElem?_map, hk]; rfl)) ?_
  refine ⟨N o, [nodeD s], 0, 0, rfl, rfl, ek, rfl, ?_⟩
  have stp2 := hw ▸ stp
  exact nx _ _ _ stp2
theorem way1_ok (st : St C ω b p n h ms S N hs) (hk : ms[k]? = some o) (hj : ms[j]? = some t) (es : S o = s) (eu : S t = u) (fm : s.many + u.many < 30) (fn : s.nests + u.nests < 6) (hl : hs.length ≤ 900) {r : Int} (h4 : x4 = some (.int r))
    (nx : ∀ ρ' ω' S' hs', St C ω' b p n h ms S' N hs' → hs'.length ≤ hs.length + 6 → D.nx ρ' ω') : way1 K C D [some (refD b), some (refD p), some (refD n), some (refD h), x4, some (.int ((k : Nat) : Int)), some (.int ((j : Nat) : Int)), some (refD o), some (refD t), some (nodeD s), some (nodeD u), x11, x12, x13] ω := by
  have two : 2 ≤ sizeLine := by decide
  have three : 3 ≤ sizeLine := by decide
  subst h4
  have mo := List.mem_of_getElem? hk
  have mt := List.mem_of_getElem? hj
  have os := st.pool.ok o mo
  have ou := st.pool.ok t mt
  have ls := os.len
  have lt := ou.len
  have e1 := st.at_k mo
  have e2 := st.at_k mt
  rw [es] at os ls e1
  rw [eu] at ou lt e2
  have okj : ∀ w : Wo, OkS (w.shp s u) := fun w => by
    refine ⟨?_, ?_, ?_⟩
    · cases w <;> exact ⟨os.low, ou.low⟩
    · cases w <;> simp only [Wo.shp, Shp.many] <;> omega
    · cases w <;> simp only [Wo.shp, Shp.nests] <;> omega
  have pu : 1 ≤ u.many := by cases u <;> simp only [Shp.many] <;> omega
  unfold way1 dSeq dSet
  refine mk_mixed e1 (by omega) st.out' rfl ω _ _ SubW.id fun m ω1 k1 em om => ?_
  dsimp only [List.set]
  have st1 := st.keep k1
  have e11 := e1.keep k1
  have e21 := e2.keep k1
  refine ext2_ok (hs := hs) st1 rfl (by omega) (mk_lists e11 (by omega) st1.out' rfl) (nm_node1 rfl) (mk_nested e11 (by omega) st1.out' rfl) (nm_node1 rfl) ⟨os.low, by simp only [Shp.many]; omega, by simp only [Shp.nests]; omega⟩ ⟨os.low, by simp only [Shp.many]; omega, by simp only [Shp.nests]; omega⟩ fun ω2 a1 a2 st2 k2 => ?_
  have e12 := k2 _ _ e11
  have e22 := k2 _ _ e21
  have em2 := k2 _ _ em
  have nmM : Nm ω2 [some (refD b), some (refD p), some (refD n), some (refD h), some (.int r), some (.int ((k : Nat) : Int)), some (.int ((j : Nat) : Int)), some (refD o), some (refD t), some (nodeD s), some (nodeD u), some (refD m), x12, x13] nodeM (nodeD (.or (.not s) .nothing)) := fun ω q x _ z => ⟨two, by decide, three, z⟩
  refine ext2_ok st2 rfl (by rw [List.length_append]; show _ + 2 ≤ _; omega) (mk_var em2 rfl om) nmM (mk_or e12 e22 (by omega) (by omega) st2.out' rfl rfl) (nm_node2 rfl rfl) ⟨⟨os.low, trivial⟩, by simp only [Shp.many]; omega, by simp only [Shp.nests]; omega⟩ (okj .or) fun ω3 a3 a4 st3 k3 => ?_
  have e13 := k3 _ _ e12
  have e23 := k3 _ _ e22
  refine ext2_ok (ρ := [some (refD b), some (refD p), some (refD n), some (refD h), some (.int r), some (.int ((k : Nat) : Int)), some (.int ((j : Nat) : Int)), some (refD o), some (refD t), some (nodeD s), some (nodeD u), some (refD m), x12, x13]) st3 rfl (by rw [List.length_append, List.length_append]; show _ + 2 + 2 ≤ _; omega) (mk_and e13 e23 (by omega) (by omega) st3.out' rfl rfl) (nm_node2 rfl rfl) (mk_sub e23 e13 (by omega) (by omega) st3.out' rfl rfl) (nm_node2 rfl rfl) (okj .and) ⟨⟨ou.low, os.low⟩, by simp only [Shp.many]; omega, by simp only [Shp.nests]; omega⟩ fun ω4 a5 a6 st4 k4 => ?_
  have fin : ∀ (ρ' : DS) (ω' : Wd) (S' : Addr → Shp), St C ω' b p n h ms S' N (hs ++ [(a1, .lists s), (a2, .nested s)] ++ [(a3, .or (.not s) .nothing), (a4, .or s u)] ++ [(a5, .and s u), (a6, .less u s)]) → D.nx ρ' ω' := fun ρ' ω' S' z => nx ρ' ω' S' _ z (by simp only [List.length_append, List.length_cons, List.length_nil]; omega)
  refine ⟨trivial, ite2 (fun _ => ?_) (fun _ => ?_)⟩
  · exact put_ok rfl rfl st4 hk hj es eu (okj .or) fin
  · exact put_ok rfl rfl st4 hk hj es eu (okj .and) fin
end
end Tx

namespace Tx
open PySem PySem.Spec PyProof.Rows L2
/-! ## k17: the other ways of one step -/
def way2 : DTS := dSubs2 (dVar 1) (dVar 5) (dVar 2) (dVar 5) (dTup (dCons (dVar 8) (dCons (dOp ixD (dVar 2) (dVar 6)) dNil))) rsList
def pickE (ta : DTA) : DTE := dOp ixD (dLstO ta) (dOp (intD (fun _ _ => True) fun i j => PyData.int (i - j)) (dVar 4) (dC (.int 6)))
def way3 (K : PySem.W.Frag) (C : Addr) : DTS := dSeq (dSet 12 (pickE (dCons (dC (.str "or")) (dCons (dC (.str "and")) (dCons (dC (.str "less")) (dCons (dC (.str "nested")) dNil))))))
  (dSeq (dSetS (dVar 2) (dVar 5) (dLstO (dCons (dIf (dTest (dOp eqD (dVar 12) (dC (.str "nested")))) (dTup (dCons (dVar 12) (dCons (dVar 9) dNil))) (dTup (dCons (dVar 12) (dCons (dVar 9) (dCons (dVar 10) dNil))))) dNil)) rsList)
    (dSetS (dVar 1) (dVar 5) (pickE (dCons (orE K C (dVar 7) (dVar 8)) (dCons (andE K C (dVar 7) (dVar 8)) (dCons (subE K C (dVar 7) (dVar 8)) (dCons (nstE C) dNil))))) rsList))
def way4 (C : Addr) : DTS := dSeq (dAsg (dCall (dsLShape C 5) (dCons (dVar 0) (dCons (dCall dsTake (dCons (dVar 0) (dCons (dC (.int 2)) dNil))) (dCons (dLstO (dCons (dC (.int 1)) dNil)) dNil)))) (dgTup 2 (dgCons (dgName 13) (dgCons (dgName 9) dgNil))))
  (dSubs2 (dVar 1) (dVar 5) (dVar 2) (dVar 5) (dTup (dCons (dVar 13) (dCons (dLstO (dCons (dVar 9) dNil)) dNil))) rsList)
theorem OkS.of_len {s : Shp} (h : s.low) (l : s.len ≤ 12) : OkS s := ⟨h, by have := many_len s; omega, by have := nests_len s; omega⟩
section
variable {K : PySem.W.Frag} {C b p n h o t : Addr} {ω : Wd} {ms : List Addr} {S : Addr → Shp} {N : Addr → Addr} {hs : List (Addr × Shp)} {D : DEnds} {s u : Shp} {k j : Nat} {x4 x7 x8 x9 x10 x11 x12 x13 : Option PyData}
theorem way2_ok (st : St C ω b p n h ms S N hs) (kl : k < 3) (hj : ms[j]? = some t)
    (nx : ∀ ρ' ω' ms', St C ω' b p n h ms' S N hs → D.nx ρ' ω') : way2 D [some (refD b), some (refD p), some (refD n), some (refD h), x4, some (.int ((k : Nat) : Int)), some (.int ((j : Nat) : Int)), x7, some (refD t), x9, x10, x11, x12, x13] ω := by
  have two : 2 ≤ sizeLine := by decide
  have mt := List.mem_of_getElem? hj
  have l3 := st.pool.len
  have st2 := st.alias (k := k) mt
  refine ixD_cell st.pool.hn (d := refD (N t)) (atI_n (by rw [List.map_map, List.getElem?_map, hj]; rfl)) ⟨two, _, _, rfl, ?_⟩
  refine ⟨p, _, _, k, rfl, rfl, st.pool.hp, ixN_n (by rw [List.length_map]; omega), ?_⟩
  refine ⟨n, (ms.map N).map refD, _, k, rfl, rfl, ?_, ixN_n (by rw [List.length_map, List.length_map]; omega), nx _ _ _ st2⟩
  rw [updW_ne (Ne.symm st.pool.apart.1)]
  exact st.pool.hn
theorem way4_ok (st : St C ω b p n h ms S N hs) (kl : k < 3)
    (nx : ∀ ρ' ω' ms' S' N', St C ω' b p n h ms' S' N' hs → D.nx ρ' ω') : way4 C D [some (refD b), some (refD p), some (refD n), some (refD h), x4, some (.int ((k : Nat) : Int)), some (.int ((j : Nat) : Int)), x7, x8, x9, x10, x11, x12, x13] ω := by
  have one : 1 ≤ sizeLine := by decide
  have two : 2 ≤ sizeLine := by decide
  have l3 := st.pool.len
  refine ⟨b, 2, rfl, st.bag, by decide, by decide, fun r r0 r1 => ⟨one, fun l hl => ?_⟩⟩
  have st1 := st.fresh (x := .lst [.int 1]) hl
  refine ⟨b, l, r.toNat, 1, ?_, st1.bag, updW_same, by omega, by decide, fun s m ω2 sr => ⟨rfl, rfl, ?_⟩⟩
  · rw [Int.toNat_of_nonneg r0]
  have k2 : SubW ω ω2 := fun a x e => sr.keep a x (fun z => by rw [z, hl] at e; cases e) (kept hl a x e)
  refine ⟨one, fun n' hn' => ⟨two, _, _, rfl, ?_⟩⟩
  have k3 : SubW ω (updW ω2 n' (.lst [nodeD s])) := k2.trans (kept hn')
  have m3 : At C (updW ω2 n' (.lst [nodeD s])) m s := At.fresh sr.at_ hn'
  have n3 : updW ω2 n' (.lst [nodeD s]) n' = some (.lst [nodeD s]) := updW_same
  have g1 : ω m = none := SubW.no (kept (x := .lst [.int 1]) hl) sr.new_
  have g2 : ω n' = none := k2.no hn'
  have ok : OkS s := .of_len sr.low (by
    have h1 := sr.len
    have : r.toNat ≤ 1 := by omega
    have h2 : lb r.toNat ≤ 4 := by
      match r.toNat, this with
      | 0, _ => decide
      | 1, _ => decide
    omega)
  generalize updW ω2 n' (.lst [nodeD s]) = ω3 at k3 m3 n3
  refine ⟨p, _, _, k, rfl, rfl, k3 _ _ st.pool.hp, ixN_n (by rw [List.length_map]; omega), ?_⟩
  have en : updW ω3 p (.lst ((ms.map refD).set k (refD m))) n = some (.lst ((ms.map N).map refD)) := by
    rw [updW_ne (Ne.symm st.pool.apart.1)]
    exact k3 _ _ st.pool.hn
  have np : n' ≠ p := fun z => by rw [z, st.pool.hp] at g2; cases g2
  have nn : n' ≠ n := fun z => by rw [z, st.pool.hn] at g2; cases g2
  have mp : m ≠ p := fun z => by rw [z, st.pool.hp] at g1; cases g1
  have mn : m ≠ n := fun z => by rw [z, st.pool.hn] at g1; cases g1
  refine ⟨n, (ms.map N).map refD, _, k, rfl, rfl, en, ixN_n (by rw [List.length_map, List.length_map]; omega), ?_⟩
  refine nx _ _ _ _ _ (st.new (k := k) (m := m) (n' := n') (s' := s) (fun a x h1 h2 e => ?_) ?_ ?_ g1 g2 ok ?_ ?_)
  · rw [updW_ne h2, updW_ne h1]
    exact k3 _ _ e
  · obtain ⟨dx, e⟩ := m3
    exact ⟨dx, by rw [updW_ne mn, updW_ne mp]; exact e⟩
  · rw [updW_ne nn, updW_ne np]
    exact n3
  · rw [updW_ne st.pool.apart.1]
    exact updW_same
  · exact updW_same
theorem pick_facts {i : Nat} (hi : i < 4) (ok1 : OkS (.or s u)) (ok2 : OkS (.and s u)) (ok3 : OkS (.less s u)) (ok4 : OkS (.nested s)) : ∃ (wd : Str) (sh : Shp), [PyData.str "or", .str "and", .str "less", .str "nested"][i]? = some (.str wd) ∧ OkS sh ∧
    ((decide (wd = ("nested" : Str)) = true ∧ nodeD sh = .tuple [.str wd, nodeD s]) ∨ (decide (wd = ("nested" : Str)) = false ∧ nodeD sh = .tuple [.str wd, nodeD s, nodeD u])) ∧
    ∀ (F : Addr → Prop) (ω : Wd) (m1 m2 m3 m4 : Addr), At C ω m1 (.or s u) → At C ω m2 (.and s u) → At C ω m3 (.less s u) → At C ω m4 (.nested s) → F m1 → F m2 → F m3 → F m4 → ∃ m, [refD m1, refD m2, refD m3, refD m4][i]? = some (refD m) ∧ At C ω m sh ∧ F m := by
  match i, hi with
  | 0, _ => exact ⟨_, .or s u, rfl, ok1, .inr ⟨by decide, rfl⟩, fun F ω m1 m2 m3 m4 a1 a2 a3 a4 f1 f2 f3 f4 => ⟨m1, rfl, a1, f1⟩⟩
  | 1, _ => exact ⟨_, .and s u, rfl, ok2, .inr ⟨by decide, rfl⟩, fun F ω m1 m2 m3 m4 a1 a2 a3 a4 f1 f2 f3 f4 => ⟨m2, rfl, a2, f2⟩⟩
  | 2, _ => exact ⟨_, .less s u, rfl, ok3, .inr ⟨by decide, rfl⟩, fun F ω m1 m2 m3 m4 a1 a2 a3 a4 f1 f2 f3 f4 => ⟨m3, rfl, a3, f3⟩⟩
  | 3, _ => exact ⟨_, .nested s, rfl, ok4, .inl ⟨by decide, rfl⟩, fun F ω m1 m2 m3 m4 a1 a2 a3 a4 f1 f2 f3 f4 => ⟨m4, rfl, a4, f4⟩⟩
theorem way3_ok (st : St C ω b p n h ms S N hs) (hk : ms[k]? = some o) (hj : ms[j]? = some t) (es : S o = s) (eu : S t = u) (fm : s.many + u.many < 30) (fn : s.nests + u.nests < 6) {r : Int} (r6 : 6 ≤ r) (r9 : r < 10) (h4 : x4 = some (.int r))
    (nx : ∀ ρ' ω' ms' S' N', St C ω' b p n h ms' S' N' hs → D.nx ρ' ω') : way3 K C D [some (refD b), some (refD p), some (refD n), some (refD h), x4, some (.int ((k : Nat) : Int)), some (.int ((j : Nat) : Int)), some (refD o), some (refD t), some (nodeD s), some (nodeD u), x11, x12, x13] ω := by
  have one : 1 ≤ sizeLine := by decide
  have two : 2 ≤ sizeLine := by decide
  have three : 3 ≤ sizeLine := by decide
  have four : 4 ≤ sizeLine := by decide
  obtain ⟨i, hi, rfl⟩ : ∃ i : Nat, i < 4 ∧ r = ((i : Nat) : Int) + 6 := ⟨(r - 6).toNat, by omega, by omega⟩
  subst h4
  have l3 := st.pool.len
  have kl := (List.getElem?_eq_some_iff.mp hk).1
  have mo := List.mem_of_getElem? hk
  have mt := List.mem_of_getElem? hj
  have os := st.pool.ok o mo
  have ou := st.pool.ok t mt
  have ls := os.len
  have lt := ou.len
  have e1 := st.at_k mo
  have e2 := st.at_k mt
  rw [es] at os ls e1
  rw [eu] at ou lt e2
  obtain ⟨wd, sh, q1, ok, q2, q3⟩ := pick_facts (C := C) (s := s) (u := u) hi ⟨⟨os.low, ou.low⟩, by simp only [Shp.many]; omega, by simp only [Shp.nests]; omega⟩ ⟨⟨os.low, ou.low⟩, by simp only [Shp.many]; omega, by simp only [Shp.nests]; omega⟩ ⟨⟨os.low, ou.low⟩, by simp only [Shp.many]; omega, by simp only [Shp.nests]; omega⟩ ⟨os.low, by simp only [Shp.many]; omega, by simp only [Shp.nests]; omega⟩
  have ei : ((i : Nat) : Int) + 6 - 6 = ((i : Nat) : Int) := by omega
  refine ⟨four, fun l0 hl0 => ⟨trivial, ixD_cell updW_same (d := .str wd) (by rw [ei]; exact atI_n q1) ?_⟩⟩
  have k1 : SubW ω (updW ω l0 (.lst [.str "or", .str "and", .str "less", .str "nested"])) := kept hl0
  generalize updW ω l0 (.lst [.str "or", .str "and", .str "less", .str "nested"]) = ω1 at k1
  have rest : ∀ n', ω1 n' = none → ∀ y12, dSetS (dVar 1) (dVar 5) (pickE (dCons (orE K C (dVar 7) (dVar 8)) (dCons (andE K C (dVar 7) (dVar 8)) (dCons (subE K C (dVar 7) (dVar 8)) (dCons (nstE C) dNil))))) rsList D
      [some (refD b), some (refD p), some (refD n), some (refD h), some (.int (((i : Nat) : Int) + 6)), some (.int ((k : Nat) : Int)), some (.int ((j : Nat) : Int)), some (refD o), some (refD t), some (nodeD s), some (nodeD u), x11, y12, x13]
      (updW (updW ω1 n' (.lst [nodeD sh])) n (.lst (((ms.map N).map refD).set k (refD n')))) := fun n' hn' y12 => by
    have g2 : ω n' = none := k1.no hn'
    have np : n' ≠ p := fun z => by rw [z, st.pool.hp] at g2; cases g2
    have nn : n' ≠ n := fun z => by rw [z, st.pool.hn] at g2; cases g2
    have kp : ∀ a x, a ≠ n → ω a = some x → updW (updW ω1 n' (.lst [nodeD sh])) n (.lst (((ms.map N).map refD).set k (refD n'))) a = some x := fun a x h2 e => by
      rw [updW_ne h2]
      exact kept hn' _ _ (k1 _ _ e)
    have kn : updW (updW ω1 n' (.lst [nodeD sh])) n (.lst (((ms.map N).map refD).set k (refD n'))) n = some (.lst (((ms.map N).map refD).set k (refD n'))) := updW_same
    have ke : updW (updW ω1 n' (.lst [nodeD sh])) n (.lst (((ms.map N).map refD).set k (refD n'))) n' = some (.lst [nodeD sh]) := by rw [updW_ne nn, updW_same]
    generalize updW (updW ω1 n' (.lst [nodeD sh])) n (.lst (((ms.map N).map refD).set k (refD n'))) = ω2 at kp kn ke
    have fr : ∀ m, ω2 m = none → ω m = none := fun m hm => by
      cases q : ω m with
      | none => rfl
      | some x =>
        by_cases e : m = n
        · rw [e, kn] at hm; cases hm
        · rw [kp m x e q] at hm; cases hm
    have a1 : At C ω2 o s := by
      have := e1.lst st.pool.hn
      obtain ⟨dx, e⟩ := e1
      exact ⟨dx, kp _ _ this e⟩
    have a2 : At C ω2 t u := by
      have := e2.lst st.pool.hn
      obtain ⟨dx, e⟩ := e2
      exact ⟨dx, kp _ _ this e⟩
    unfold dSetS pickE dOp dLstO dCons dNil
    refine mk_or (F := fun m => ω m = none) a1 a2 (by omega) (by omega) fr rfl rfl ω2 _ _ SubW.id fun m1 ω3 k3 b1 f1 => ?_
    refine mk_and (F := fun m => ω m = none) a1 a2 (by omega) (by omega) fr rfl rfl ω3 _ _ k3 fun m2 ω4 k4 b2 f2 => ?_
    refine mk_sub (F := fun m => ω m = none) a1 a2 (by omega) (by omega) fr rfl rfl ω4 _ _ (k3.trans k4) fun m3 ω5 k5 b3 f3 => ?_
    refine mk_nested (F := fun m => ω m = none) a1 (by omega) fr rfl ω5 _ _ ((k3.trans k4).trans k5) fun m4 ω6 k6 b4 f4 => ?_
    refine ⟨four, fun l1 hl1 => ?_⟩
    have k7 : SubW ω6 (updW ω6 l1 (.lst [refD m1, refD m2, refD m3, refD m4])) := kept hl1
    obtain ⟨m, c1, c2, c3⟩ := q3 (fun m => ω m = none) _ m1 m2 m3 m4 (b1.keep (((k4.trans k5).trans k6).trans k7)) (b2.keep ((k5.trans k6).trans k7)) (b3.keep (k6.trans k7)) (b4.keep k7) f1 f2 f3 f4
    have ka : SubW ω2 (updW ω6 l1 (.lst [refD m1, refD m2, refD m3, refD m4])) := (((k3.trans k4).trans k5).trans k6).trans k7
    refine ⟨trivial, ixD_cell updW_same (d := refD m) (by rw [ei]; exact atI_n c1) ?_⟩
    have mp : m ≠ p := fun z => by rw [z, st.pool.hp] at c3; cases c3
    refine ⟨p, _, _, k, rfl, rfl, ka _ _ (kp _ _ st.pool.apart.1 st.pool.hp), ixN_n (by rw [List.length_map]; omega), ?_⟩
    refine nx _ _ _ _ _ (st.new (k := k) (m := m) (n' := n') (s' := sh) (fun a x h1 h2 e => ?_) ?_ ?_ c3 g2 ok ?_ ?_)
    · rw [updW_ne h1]
      exact ka _ _ (kp _ _ h2 e)
    · obtain ⟨dx, e⟩ := c2
      exact ⟨dx, by rw [updW_ne mp]; exact e⟩
    · rw [updW_ne np]
      exact ka _ _ ke
    · exact updW_same
    · rw [updW_ne (Ne.symm st.pool.apart.1)]
      exact ka _ _ kn
  refine ite2 (fun e => ?_) (fun e => ?_)
  · rcases q2 with ⟨_, q2⟩ | ⟨q2, _⟩
    · refine ⟨two, one, fun n' hn' => ⟨n, (ms.map N).map refD, _, k, rfl, rfl, ?_, ixN_n (by rw [List.length_map, List.length_map]; omega), ?_⟩⟩
      · exact kept hn' _ _ (k1 _ _ st.pool.hn)
      · have z := rest n' hn' (some (.str wd))
        rw [q2] at z
        exact z
    · rw [q2] at e
      cases e
  · rcases q2 with ⟨q2, _⟩ | ⟨_, q2⟩
    · exact absurd q2 e
    · refine ⟨three, one, fun n' hn' => ⟨n, (ms.map N).map refD, _, k, rfl, rfl, ?_, ixN_n (by rw [List.length_map, List.length_map]; omega), ?_⟩⟩
      · exact kept hn' _ _ (k1 _ _ st.pool.hn)
      · have z := rest n' hn' (some (.str wd))
        rw [q2] at z
        exact z
end
end Tx

namespace Tx
open PySem PySem.Spec PyProof.Rows L2
/-! ## k17: one step -/
/-- 0 _law_bag_here, 1 _law_pool, 2 _law_nodes, 3 _law_held, 4 _law_pick, 5 _law_k, 6 _law_j, 7 _law_one, 8 _law_other, 9 _law_node, 10 _law_beside, 11 _law_mixed, 12 _law_word, 13 _law_made -/
abbrev sLStep : Stmt := top 32
theorem scLStep : FnScope ["_law_bag_here", "_law_pool", "_law_nodes", "_law_held", "_law_pick", "_law_k", "_law_j", "_law_one", "_law_other", "_law_node", "_law_beside", "_law_mixed", "_law_word", "_law_made"] ["_law_bag_here", "_law_pool", "_law_nodes", "_law_held"] (defScope sLStep) := ⟨rfl, rfl, rfl, by decide +kernel, rfl, by decide +kernel, by decide +kernel⟩
def fitT (m : Int) : DTT := dAnd (ltT m) (dTest (dCall dsFits (dCons (dVar 9) (dCons (dVar 10) dNil))))
def stepE (K : PySem.W.Frag) (C : Addr) : DTS := dIfS (fitT 5) (way1 K C) (dIfS (dTest (dOp eqD (dVar 4) (dC (.int 5)))) way2 (dIfS (fitT 10) (way3 K C) (way4 C)))
section
variable {K : PySem.W.Frag} {C b p n h o t : Addr} {ω : Wd} {ms : List Addr} {S : Addr → Shp} {N : Addr → Addr} {hs : List (Addr × Shp)} {D : DEnds} {s u : Shp} {k j : Nat} {x0 x1 x2 x3 x5 x6 x7 x8 x11 x12 x13 : Option PyData} {r m : Int}
theorem fitT_ok {Q : Bool → Wd → Prop} {x : DXK} (ds : s.dep < 60) (du : u.dep < 60) (z : ∀ c : Bool, (c = true ↔ r < m ∧ s.many + u.many < 30 ∧ s.nests + u.nests < 6) → Q c ω) : fitT m [x0, x1, x2, x3, some (.int r), x5, x6, x7, x8, some (nodeD s), some (nodeD u), x11, x12, x13] ω Q x := by
  refine ⟨trivial, ite2 (fun e => ?_) (fun e => ?_)⟩
  · have e := of_decide_eq_true e
    refine ⟨s, u, rfl, ds, du, z _ ?_⟩
    simp only [Bool.and_eq_true, decide_eq_true_eq]
    exact ⟨fun h => ⟨e, h⟩, fun h => h.2⟩
  · exact z false ⟨fun h => (nomatch h), fun h => absurd (decide_eq_true h.1) e⟩
theorem stepE_ok (st : St C ω b p n h ms S N hs) (hk : ms[k]? = some o) (hj : ms[j]? = some t) (es : S o = s) (eu : S t = u) (hl : hs.length ≤ 900) (r0 : 0 ≤ r)
    (nx : ∀ ρ' ω' ms' S' N' hs', St C ω' b p n h ms' S' N' hs' → hs'.length ≤ hs.length + 6 → D.nx ρ' ω') : stepE K C D [some (refD b), some (refD p), some (refD n), some (refD h), some (.int r), some (.int ((k : Nat) : Int)), some (.int ((j : Nat) : Int)), some (refD o), some (refD t), some (nodeD s), some (nodeD u), x11, x12, x13] ω := by
  have l3 := st.pool.len
  have kl := (List.getElem?_eq_some_iff.mp hk).1
  have ds : s.dep < 60 := by
    have h1 := (st.pool.ok o (List.mem_of_getElem? hk)).many
    have h2 := dep_many (S o)
    rw [← es]
    omega
  have du : u.dep < 60 := by
    have h1 := (st.pool.ok t (List.mem_of_getElem? hj)).many
    have h2 := dep_many (S t)
    rw [← eu]
    omega
  refine fitT_ok ds du fun c hc => ?_
  refine ite2 (fun e => ?_) (fun e => ?_)
  · obtain ⟨_, fm, fn⟩ := hc.mp e
    exact way1_ok st hk hj es eu fm fn hl rfl fun ρ' ω' S' hs' a b => nx ρ' ω' _ _ _ _ a b
  · refine ite2 (fun e5 => ?_) (fun e5 => ?_)
    · exact way2_ok st (by omega) hj fun ρ' ω' ms' a => nx ρ' ω' _ _ _ _ a (by omega)
    · refine fitT_ok ds du fun c2 hc2 => ?_
      refine ite2 (fun e2 => ?_) (fun e2 => ?_)
      · obtain ⟨r10, fm, fn⟩ := hc2.mp e2
        have n5 : r ≠ 5 := fun z => e5 (decide_eq_true z)
        have r6 : 6 ≤ r := by
          have : ¬ r < 5 := fun z => e (hc.mpr ⟨z, fm, fn⟩)
          omega
        exact way3_ok st hk hj es eu fm fn r6 r10 rfl fun ρ' ω' ms' S' N' a => nx ρ' ω' _ _ _ _ a (by omega)
      · exact way4_ok st (by omega) fun ρ' ω' ms' S' N' a => nx ρ' ω' _ _ _ _ a (by omega)
end
def dsStep (C : Addr) : DSp := fun ts ω q _ => ∃ b p n h ms S N hs, ts = [refD b, refD p, refD n, refD h] ∧ St C ω b p n h ms S N hs ∧ hs.length ≤ 900 ∧ ∀ ω' ms' S' N' hs', St C ω' b p n h ms' S' N' hs' → hs'.length ≤ hs.length + 6 → q .none ω'
section
variable {P : Program} {w : World} {K : PySem.W.Frag} {mg : Str → Option Value} {base : Heap} {C : Addr}
theorem dd_step (xc : OS K mg C) (xb : OSB K C) (h : Has K mg "_law_step" sLStep) (B : Bi mg) (D_law_take : Dfn P w K mg base CX0 1 "_law_take" ["_law_bag_here", "_law_many_here"] (spD K dsTake)) (D_law_fits : Dfn P w K mg base CX0 61 "_law_fits" ["_law_node", "_law_beside"] (spD K dsFits)) (D_law_shape : Dfn P w K mg base CX0 20 "_law_shape" ["_law_bag_here", "_law_deep", "_law_left"] (spD K (dsLShape C 5)))
    (M_or : Mfn P w K mg base CX0 3 C "__or__" ["self", "other"] (spD K (dsBinS .or C))) (M_and : Mfn P w K mg base CX0 3 C "__and__" ["self", "other"] (spD K (dsBinS .and C))) (M_sub : Mfn P w K mg base CX0 3 C "__sub__" ["self", "other"] (spD K (dsBinS .less C))) (M_invert : Mfn P w K mg base CX0 3 C "__invert__" ["self"] (spD K (dsInvS C)))
    (M_ior : Mfn P w K mg base CX0 3 C "__ior__" ["self", "other"] (spD K (dsIorS .or C))) (M_iand : Mfn P w K mg base CX0 3 C "__iand__" ["self", "other"] (spD K (dsIorS .and C))) (K_nothing0 : Kfn P w K mg base CX0 3 C "nothing" ["cls"] [] (spD K (dsLeaf C .nothing)))
    (K_lists1 : Kfn P w K mg base CX0 3 C "lists" ["cls", "shape"] [] (spD K (dsLists C))) (K_nested1 : Kfn P w K mg base CX0 3 C "nested" ["cls", "shape"] [] (spD K (dsNested C))) : Dfn P w K mg base CX0 70 "_law_step" ["_law_bag_here", "_law_pool", "_law_nodes", "_law_held"] (spD K (dsStep C)) := by
  refine dfnD (k := 69) h B scLStep (fun _ _ _ _ _ _ us hl => match us, hl with | [_, _, _, _], _ => rfl) (fun ts ω q xx h => ?_) (fun f cv A out s H E c => ⟨_, (dss_cons (ds_par (i := 5) (j := 6) rfl scLStep.nd rfl rfl (by decide) rfl rfl (da_cons (de_d D_law_take c (by omega) (by rfl) (da_cons (de_var (pv 0)) (da_cons de_int da_nil))) (da_cons (de_d D_law_take c (by omega) (by rfl) (da_cons (de_var (pv 0)) (da_cons de_int da_nil))) da_nil)) (by rfl))
    (dss_cons (ds_set (i := 4) scLStep.nd rfl (Or.inl rfl) (de_d D_law_take c (by omega) (by rfl) (da_cons (de_var (pv 0)) (da_cons de_int da_nil))))
    (dss_cons (ds_par (i := 7) (j := 8) rfl scLStep.nd rfl rfl (by decide) rfl rfl (da_cons (de_ix rfl (de_var (pv 1)) (de_var (pv 5)) (fun _ _ => rfl)) (da_cons (de_ix rfl (de_var (pv 1)) (de_var (pv 6)) (fun _ _ => rfl)) da_nil)) (by rfl))
    (dss_cons (ds_par (i := 9) (j := 10) rfl scLStep.nd rfl rfl (by decide) rfl rfl (da_cons (de_ix rfl (de_ix rfl (de_var (pv 2)) (de_var (pv 5)) (fun _ _ => rfl)) de_int (fun _ _ => rfl)) (da_cons (de_ix rfl (de_ix rfl (de_var (pv 2)) (de_var (pv 6)) (fun _ _ => rfl)) de_int (fun _ _ => rfl)) da_nil)) (by rfl))
    (dss_one (ds_if (DW.dt (dw_and (dt_cmp (do_lt rfl) (de_var (pv 4)) de_int (nomark _)) (dw_and1 (dt_val (de_d D_law_fits c (by omega) (by rfl) (da_cons (de_var (pv 9)) (da_cons (de_var (pv 10)) da_nil))))))) (dss_cons (ds_set (i := 11) scLStep.nd rfl (Or.inl rfl) (de_opM (dm_bin rfl M_or c (by omega) xb.bor) (de_unM (un_own rfl M_invert c (by omega)) (de_var (pv 7))) (de_kfn0 rfl (pe_gcl xc.cd.gC (by rfl)) K_nothing0 rd0 c (by omega) px0)))
    (dss_cons (ds_expr (de_extend rfl (de_var (pv 3)) (de_lstO (da_cons (de_tup (da_cons (de_kfn rfl (pe_gcl xc.cd.gC (by rfl)) K_lists1 rd0 c (by omega) px0 (da_cons (de_var (pv 7)) da_nil)) (da_cons (de_tup (da_cons de_str (da_cons (de_var (pv 9)) da_nil))) da_nil))) (da_cons (de_tup (da_cons (de_kfn rfl (pe_gcl xc.cd.gC (by rfl)) K_nested1 rd0 c (by omega) px0 (da_cons (de_var (pv 7)) da_nil)) (da_cons (de_tup (da_cons de_str (da_cons (de_var (pv 9)) da_nil))) da_nil))) da_nil)))))
    (dss_cons (ds_expr (de_extend rfl (de_var (pv 3)) (de_lstO (da_cons (de_tup (da_cons (de_var (pv 11)) (da_cons (de_tup (da_cons de_str (da_cons (de_tup (da_cons de_str (da_cons (de_var (pv 9)) da_nil))) (da_cons (de_tup (da_cons de_str da_nil)) da_nil)))) da_nil))) (da_cons (de_tup (da_cons (de_opM (dm_bin rfl M_or c (by omega) xb.bor) (de_var (pv 7)) (de_var (pv 8))) (da_cons (de_tup (da_cons de_str (da_cons (de_var (pv 9)) (da_cons (de_var (pv 10)) da_nil)))) da_nil))) da_nil)))))
    (dss_cons (ds_expr (de_extend rfl (de_var (pv 3)) (de_lstO (da_cons (de_tup (da_cons (de_opM (dm_bin rfl M_and c (by omega) xb.band) (de_var (pv 7)) (de_var (pv 8))) (da_cons (de_tup (da_cons de_str (da_cons (de_var (pv 9)) (da_cons (de_var (pv 10)) da_nil)))) da_nil))) (da_cons (de_tup (da_cons (de_opM (dm_bin rfl M_sub c (by omega) xb.bsub) (de_var (pv 8)) (de_var (pv 7))) (da_cons (de_tup (da_cons de_str (da_cons (de_var (pv 10)) (da_cons (de_var (pv 9)) da_nil)))) da_nil))) da_nil)))))
    (dss_one (ds_if (dt_cmp (do_lt rfl) (de_var (pv 4)) de_int (nomark _)) (dss_cons (ds_aug (n := 7) scLStep.nd rfl (Or.inl rfl) (de_var (pv 8)) (dm_inp rfl M_ior c (by omega) xb.bor.first))
    (dss_one (ds_setS (de_ix rfl (de_var (pv 2)) (de_var (pv 5)) (fun _ _ => rfl)) de_int (de_tup (da_cons de_str (da_cons (de_var (pv 9)) (da_cons (de_var (pv 10)) da_nil)))) set_listO))) (dss_cons (ds_aug (n := 7) scLStep.nd rfl (Or.inl rfl) (de_var (pv 8)) (dm_inp rfl M_iand c (by omega) xb.band.first))
    (dss_one (ds_setS (de_ix rfl (de_var (pv 2)) (de_var (pv 5)) (fun _ _ => rfl)) de_int (de_tup (da_cons de_str (da_cons (de_var (pv 9)) (da_cons (de_var (pv 10)) da_nil)))) set_listO))))))))) (dss_one (ds_if (dt_cmp (do_eq rfl c.r.units) (de_var (pv 4)) de_int (nomark _)) (dss_one (ds_subs2 rfl (de_var (pv 1)) (de_var (pv 5)) (de_var (pv 2)) (de_var (pv 5)) (de_tup (da_cons (de_var (pv 8)) (da_cons (de_ix rfl (de_var (pv 2)) (de_var (pv 6)) (fun _ _ => rfl)) da_nil))) set_listO rfl)) (dss_one (ds_if (DW.dt (dw_and (dt_cmp (do_lt rfl) (de_var (pv 4)) de_int (nomark _)) (dw_and1 (dt_val (de_d D_law_fits c (by omega) (by rfl) (da_cons (de_var (pv 9)) (da_cons (de_var (pv 10)) da_nil))))))) (dss_cons (ds_set (i := 12) scLStep.nd rfl (Or.inl rfl) (de_ix rfl (de_lstO (da_cons de_str (da_cons de_str (da_cons de_str (da_cons de_str da_nil))))) (de_op (do_sub rfl) (de_var (pv 4)) de_int) (fun _ _ => rfl)))
    (dss_cons (ds_setS (de_var (pv 2)) (de_var (pv 5)) (de_lstO (da_cons (de_if (dt_cmp (do_eq rfl c.r.units) (de_var (pv 12)) de_str (nomark _)) (de_tup (da_cons (de_var (pv 12)) (da_cons (de_var (pv 9)) da_nil))) (de_tup (da_cons (de_var (pv 12)) (da_cons (de_var (pv 9)) (da_cons (de_var (pv 10)) da_nil))))) da_nil)) set_listO)
    (dss_one (ds_setS (de_var (pv 1)) (de_var (pv 5)) (de_ix rfl (de_lstO (da_cons (de_opM (dm_bin rfl M_or c (by omega) xb.bor) (de_var (pv 7)) (de_var (pv 8))) (da_cons (de_opM (dm_bin rfl M_and c (by omega) xb.band) (de_var (pv 7)) (de_var (pv 8))) (da_cons (de_opM (dm_bin rfl M_sub c (by omega) xb.bsub) (de_var (pv 7)) (de_var (pv 8))) (da_cons (de_kfn rfl (pe_gcl xc.cd.gC (by rfl)) K_nested1 rd0 c (by omega) px0 (da_cons (de_var (pv 7)) da_nil)) da_nil))))) (de_op (do_sub rfl) (de_var (pv 4)) de_int) (fun _ _ => rfl)) set_listO)))) (dss_cons (ds_asg (de_d D_law_shape c (by omega) (by rfl) (da_cons (de_var (pv 0)) (da_cons (de_d D_law_take c (by omega) (by rfl) (da_cons (de_var (pv 0)) (da_cons de_int da_nil))) (da_cons (de_lstO (da_cons de_int da_nil)) da_nil)))) (dg_tup rfl rfl (dgs_cons (dg_name (pg_name (i := 13) scLStep.nd rfl (Or.inl rfl))) (dgs_cons (dg_name (pg_name (i := 9) scLStep.nd rfl (Or.inl rfl))) dgs_nil))))
    (dss_one (ds_subs2 rfl (de_var (pv 1)) (de_var (pv 5)) (de_var (pv 2)) (de_var (pv 5)) (de_tup (da_cons (de_var (pv 13)) (da_cons (de_lstO (da_cons (de_var (pv 9)) da_nil)) da_nil))) set_listO rfl))))))))))))), fun ts ω q xx z => ?_⟩)
  · obtain ⟨b, p, n, h, ms, S, N, hs, rfl, _⟩ := h
    rfl
  obtain ⟨b, p, n, h, ms, S, N, hs, rfl, st, hl, z⟩ := z
  have l3 := st.pool.len
  refine ⟨b, 3, rfl, st.bag, by decide, by decide, fun r1 a1 b1 => ⟨b, 3, rfl, st.bag, by decide, by decide, fun r2 a2 b2 => ?_⟩⟩
  obtain ⟨k, rfl⟩ : ∃ k : Nat, r1 = (k : Int) := ⟨r1.toNat, (Int.toNat_of_nonneg a1).symm⟩
  obtain ⟨j, rfl⟩ : ∃ j : Nat, r2 = (j : Int) := ⟨r2.toNat, (Int.toNat_of_nonneg a2).symm⟩
  obtain ⟨o, hk⟩ : ∃ o, ms[k]? = some o := ⟨ms[k]'(by omega), List.getElem?_eq_getElem _⟩
  obtain ⟨t, hj⟩ : ∃ t, ms[j]? = some t := ⟨ms[j]'(by omega), List.getElem?_eq_getElem _⟩
  refine ⟨b, 12, rfl, st.bag, by decide, by decide, fun r r0 r12 => ?_⟩
  refine ixD_cell st.pool.hp (d := refD o) (atI_n (by rw [List.getElem?_map, hk]; rfl)) (ixD_cell st.pool.hp (d := refD t) (atI_n (by rw [List.getElem?_map, hj]; rfl)) ?_)
  refine ixD_cell st.pool.hn (d := refD (N o)) (atI_n (by rw [List.map_map, List.getElem?_map, hk]; rfl)) (ixD_cell (st.pool.nod o (List.mem_of_getElem? hk)) (d := nodeD (S o)) rfl ?_)
  refine ixD_cell st.pool.hn (d := refD (N t)) (atI_n (by rw [List.map_map, List.getElem?_map, hj]; rfl)) (ixD_cell (st.pool.nod t (List.mem_of_getElem? hj)) (d := nodeD (S t)) rfl ?_)
  exact stepE_ok (x11 := none) (x12 := none) (x13 := none) st hk hj rfl rfl hl r0 fun ρ' ω' ms' S' N' hs' a b => z ω' ms' S' N' hs' a b
end
end Tx

namespace Tx
open PySem PySem.Spec PyProof.Rows L2
/-! ## k17: what is asked of shapes -/
structure Vq (vals : List PyData) : Prop where
  len : vals.length ≤ 100
  all : ∀ d ∈ vals, Val 8 400 d
def inQ (C : Addr) : DTE := dLc (diData (dVar 3)) (dgName 14) dYes (dOpM (rmIn C (dsContains C)) (dVar 14) (dVar 10)) [14]
def hasQ : DTE := dLc (diData (dVar 3)) (dgName 14) dYes (dCall (dsHas 60) (dCons (dVar 11) (dCons (dVar 14) dNil))) [14]
def chkQ (C : Addr) : DTS := dIfS (dTest (dOp neD (inQ C) hasQ)) (dRet (dC (.bool false))) dNext
section
variable {C m : Addr} {ω : Wd} {s : Shp} {vals : List PyData} {ρ : DS} {D : DEnds} {q : DQ} {x : DXK}
theorem inQ_ok (hv : Vq vals) (hm : At C ω m s) (ok : OkS s) (h3 : ρ[3]? = some (some (.list vals))) (h14 : ∀ y, ((wipeD ρ [14]).set 14 (some y))[14]? = some (some y)) (hj : ∀ y, ((wipeD ρ [14]).set 14 (some y))[10]? = some (some (refD m)))
    (z : q (.list (vals.map fun v => PyData.bool (has s v))) ω) : inQ C ρ ω q x := by
  obtain ⟨dx, hm⟩ := hm
  have sz : 1000 ≤ sizeLine := by decide
  have hl := hv.len
  have sl := ok.len
  unfold inQ dLc diData dVar
  simp only [h3]
  refine ⟨vals, rfl, by omega, fun i acc ω2 => acc = (vals.take i).map (fun v => PyData.bool (has s v)) ∧ ω2 = ω, ⟨rfl, rfl⟩, ?_, ?_⟩
  · rintro i y acc ω2 hy ⟨rfl, rfl⟩ _
    have vd := hv.all y (List.mem_of_getElem? hy)
    have hd := vd.deep
    have hs := vd.size
    unfold dgName dYes dOpM
    simp only [if_true, h14, hj]
    refine ⟨⟨m, _, rfl, hm, rfl, rfl⟩, m, dx, s, y, rfl, hm, by omega, vd.ok (by decide) (by decide), by omega, by omega, _, rfl, ?_⟩
    rw [vd.val, Bool.true_and, ← tk_snoc hy, List.map_append]
    exact ⟨rfl, by trivial⟩
  · rintro acc ω2 _ ⟨rfl, rfl⟩
    rw [List.take_length]
    exact z
theorem hasQ_ok (hv : Vq vals) (ok : OkS s) (h3 : ρ[3]? = some (some (.list vals))) (h14 : ∀ y, ((wipeD ρ [14]).set 14 (some y))[14]? = some (some y)) (hj : ∀ y, ((wipeD ρ [14]).set 14 (some y))[11]? = some (some (nodeD s)))
    (z : q (.list (vals.map fun v => PyData.bool (has s v))) ω) : hasQ ρ ω q x := by
  have sz : 1000 ≤ sizeLine := by decide
  have hl := hv.len
  have sd := dep_many s
  have sm := ok.many
  unfold hasQ dLc diData dVar
  simp only [h3]
  refine ⟨vals, rfl, by omega, fun i acc ω2 => acc = (vals.take i).map (fun v => PyData.bool (has s v)) ∧ ω2 = ω, ⟨rfl, rfl⟩, ?_, ?_⟩
  · rintro i y acc ω2 hy ⟨rfl, rfl⟩ _
    have vd := hv.all y (List.mem_of_getElem? hy)
    have hd := vd.deep
    have hs := vd.size
    unfold dgName dYes dCall dCons dNil
    simp only [if_true, h14, hj]
    refine ⟨s, y, _, rfl, .node s, vd.val, by omega, by omega, ?_⟩
    rw [← tk_snoc hy, List.map_append]
    exact ⟨rfl, by trivial⟩
  · rintro acc ω2 _ ⟨rfl, rfl⟩
    rw [List.take_length]
    exact z
theorem chkQ_ok (hv : Vq vals) (hm : At C ω m s) (ok : OkS s) (h3 : ρ[3]? = some (some (.list vals))) (h14 : ∀ y, ((wipeD ρ [14]).set 14 (some y))[14]? = some (some y)) (hj : ∀ y, ((wipeD ρ [14]).set 14 (some y))[10]? = some (some (refD m)))
    (hk : ∀ y, ((wipeD ρ [14]).set 14 (some y))[11]? = some (some (nodeD s))) (nx : D.nx ρ ω) : chkQ C D ρ ω := by
  have bo := bools_ok (s := s) hv.len
  unfold chkQ dIfS dTest dOp
  refine inQ_ok hv hm ok h3 h14 hj ?_
  refine hasQ_ok hv ok h3 h14 hk ?_
  refine neD_of .rfl' .rfl' bo.shaped bo.shaped ?_
  rw [SeqAt.eqv_refl _ (fine_lay _ bo.1)]
  exact iteF nx
end
abbrev fromL (xs : List (Addr × Shp)) : List PyData := xs.map fun x => .tuple [refD x.1, nodeD x.2]
abbrev gQ : DTG := dgTup 2 (dgCons (dgName 10) (dgCons (dgName 11) dgNil))
section
variable {C m : Addr} {ω : Wd} {vals : List PyData} {D : DEnds} {s0 s1 s2 s4 s5 s6 s7 s8 s9 s10 s11 s12 s13 s14 : Option PyData}
/-- for shape, node in ..: what is asked of each -/
theorem loopQ_ok (hv : Vq vals) {xs : List (Addr × Shp)} (ha : ∀ x ∈ xs, At C ω x.1 x.2 ∧ OkS x.2) (nx : ∀ y10 y11, D.nx [s0, s1, s2, some (.list vals), s4, s5, s6, s7, s8, s9, y10, y11, s12, s13, s14] ω) :
    ∃ Inv : Nat → DS → Wd → Prop, Inv 0 [s0, s1, s2, some (.list vals), s4, s5, s6, s7, s8, s9, s10, s11, s12, s13, s14] ω ∧
      (∀ i x ρ' ω', (fromL xs)[i]? = some x → Inv i ρ' ω' → gQ x ρ' fun ρ'' => chkQ C { D with nx := Inv (i + 1), ct := Inv (i + 1), bk := D.nx } ρ'' ω') ∧ ∀ ρ' ω', Inv (fromL xs).length ρ' ω' → D.nx ρ' ω' := by
  refine ⟨fun _ ρ' ω' => ω' = ω ∧ ∃ y10 y11, ρ' = [s0, s1, s2, some (.list vals), s4, s5, s6, s7, s8, s9, y10, y11, s12, s13, s14], ⟨rfl, _, _, rfl⟩, ?_, ?_⟩
  · rintro i x ρ' ω' hx ⟨rfl, y10, y11, rfl⟩
    rw [List.getElem?_map] at hx
    obtain ⟨y, hy, rfl⟩ := Option.map_eq_some_iff.mp hx
    obtain ⟨a1, a2⟩ := ha y (List.mem_of_getElem? hy)
    refine ⟨rfl, rfl, ?_⟩
    exact chkQ_ok (ρ := [s0, s1, s2, some (.list vals), s4, s5, s6, s7, s8, s9, some (refD y.1), some (nodeD y.2), s12, s13, s14]) hv a1 a2 rfl (fun _ => rfl) (fun _ => rfl) (fun _ => rfl) ⟨rfl, _, _, rfl⟩
  · rintro ρ' ω' ⟨rfl, y10, y11, rfl⟩
    exact nx _ _
end
theorem low_mx : ∀ (s : Shp) (o : Nat), s.low → ∀ nd ∈ codeAt o s, mxOk 62 nd
  | .every, _, _, nd, h => by simp only [codeAt, List.mem_singleton] at h; subst h; trivial
  | .never, _, _, nd, h => by simp only [codeAt, List.mem_singleton] at h; subst h; trivial
  | .nothing, _, _, nd, h => by simp only [codeAt, List.mem_singleton] at h; subst h; trivial
  | .texts lo hi, _, l, nd, h => by
    simp only [codeAt, List.mem_singleton] at h
    subst h
    obtain ⟨l1, l2, l3⟩ := l
    exact ⟨by omega, l1, fun h e => ⟨(l3 h e).1, by have := (l3 h e).2; omega⟩⟩
  | .lists s, o, l, nd, h => by
    simp only [codeAt, List.mem_append, List.mem_singleton] at h
    rcases h with h | rfl
    · exact low_mx s o l nd h
    · trivial
  | .nested s, o, l, nd, h => by
    simp only [codeAt, List.mem_append, List.mem_cons, List.not_mem_nil, or_false] at h
    rcases h with h | rfl | rfl
    · exact low_mx s o l nd h
    · trivial
    · trivial
  | .not s, o, l, nd, h => by
    simp only [codeAt, List.mem_append, List.mem_singleton] at h
    rcases h with h | rfl
    · exact low_mx s o l nd h
    · trivial
  | .or a b, o, l, nd, h => by
    simp only [codeAt, List.mem_append, List.mem_singleton] at h
    rcases h with (h | h) | rfl
    · exact low_mx a _ l.1 nd h
    · exact low_mx b _ l.2 nd h
    · trivial
  | .and a b, o, l, nd, h => by
    simp only [codeAt, List.mem_append, List.mem_singleton] at h
    rcases h with (h | h) | rfl
    · exact low_mx a _ l.1 nd h
    · exact low_mx b _ l.2 nd h
    · trivial
  | .less a b, o, l, nd, h => by
    simp only [codeAt, List.mem_append, List.mem_singleton] at h
    rcases h with (h | h) | rfl
    · exact low_mx a _ l.1 nd h
    · exact low_mx b _ l.2 nd h
    · trivial
theorem OkS.fits {s : Shp} (h : OkS s) (n : s.nests ≤ 3) : Fits (.less s .never) := by
  refine ⟨?_, fun nd hn => low_mx (.less s .never) 0 ⟨h.low, trivial⟩ nd hn, ?_⟩
  · have := h.len
    simp only [Shp.len]
    omega
  · rw [nLs_code]
    simp only [Shp.nests]
    omega
end Tx

namespace Tx
open PySem PySem.Spec PyProof.Rows L2
/-! ## k17: one turn of the law -/
def pairsE : DTE := dLc (diRange1 (dCons (dC (.int 3)) dNil)) (dgName 13) dYes (dTup (dCons (dOp ixD (dVar 6) (dVar 13)) (dCons (dOp ixD (dOp ixD (dVar 7) (dVar 13)) (dC (.int 0))) dNil))) [13]
def look17 (C : Addr) : DTS := dFor (diData (dOp addD pairsE (dSl (dVar 8) (some (dNeg (dC (.int 12)))) none))) gQ (chkQ C)
def isin17 (K : PySem.W.Frag) (C : Addr) : DTS := dIfS (dNot (dTest (dCB allD (dCons (dLcO (dioO (dVar 6)) (dgName 10) dYes (dIsC K C (dVar 10)) [10]) dNil)))) (dRet (dC (.bool false))) dNext
def met17 (C : Addr) : DTS := dSeq (dSet 9 (dCall dsTake (dCons (dVar 2) (dCons (dC (.int 3)) dNil)))) (dIfS (dNot (dTest (dCall (dsMet C) (dCons (dOp ixD (dVar 6) (dVar 9)) (dCons (dOp ixD (dOp ixD (dVar 7) (dVar 9)) (dC (.int 0))) (dCons (dVar 3) dNil)))))) (dRet (dC (.bool false))) dNext)
def turn17 (K : PySem.W.Frag) (C : Addr) : DTS := dSeq (dDrop (dCall (dsStep C) (dCons (dVar 2) (dCons (dVar 6) (dCons (dVar 7) (dCons (dVar 8) dNil)))))) (dSeq (look17 C) (dSeq (isin17 K C) (met17 C)))
section
variable {K : PySem.W.Frag} {mg : Str → Option Value} {C b p n h : Addr} {ω : Wd} {ms : List Addr} {S : Addr → Shp} {N : Addr → Addr} {hs : List (Addr × Shp)} {vals : List PyData} {D : DEnds} {s0 s1 s4 s5 s9 s10 s11 s12 s13 s14 : Option PyData}
theorem pairs_ok {q : DQ} {x : DXK} (st : St C ω b p n h ms S N hs) (z : q (.list (fromL (ms.map fun m => (m, S m)))) ω) : pairsE [s0, s1, some (refD b), some (.list vals), s4, s5, some (refD p), some (refD n), some (refD h), s9, s10, s11, s12, s13, s14] ω q x := by
  have two : 2 ≤ sizeLine := by decide
  have three : 3 ≤ sizeLine := by decide
  have l3 := st.pool.len
  refine ⟨by decide, by decide, by rw [List.length_map, List.length_range]; exact three, fun i acc ω2 => ω2 = ω ∧ acc = fromL ((ms.map fun m => (m, S m)).take i), ⟨rfl, rfl⟩, ?_, ?_⟩
  · rintro i y acc ω2 hy ⟨rfl, rfl⟩ _
    rw [List.getElem?_map] at hy
    obtain ⟨i', hi, rfl⟩ := Option.map_eq_some_iff.mp hy
    obtain ⟨lt, e⟩ := List.getElem?_eq_some_iff.mp hi
    rw [List.getElem_range] at e
    subst e
    rw [List.length_range] at lt
    have lt : i < 3 := lt
    obtain ⟨m, hm⟩ : ∃ m, ms[i]? = some m := ⟨ms[i]'(by omega), List.getElem?_eq_getElem _⟩
    have hp : (ms.map refD)[i]? = some (refD m) := by rw [List.getElem?_map, hm]; rfl
    have hn : ((ms.map N).map refD)[i]? = some (refD (N m)) := by rw [List.map_map, List.getElem?_map, hm]; rfl
    have mm := List.mem_of_getElem? hm
    unfold dgName dYes
    simp only [if_true]
    refine ixD_cell st.pool.hp (d := refD m) (atI_n hp) ?_
    refine ixD_cell st.pool.hn (d := refD (N m)) (atI_n hn) (ixD_cell (st.pool.nod m mm) (d := nodeD (S m)) rfl ?_)
    refine ⟨two, rfl, ?_⟩
    have e : (ms.map fun m => (m, S m))[i]? = some (m, S m) := by rw [List.getElem?_map, hm]; rfl
    rw [← tk_snoc e]
    unfold fromL
    rw [List.map_append]
    rfl
  · rintro acc ω2 _ ⟨rfl, rfl⟩
    rw [List.length_map, List.length_range, List.take_of_length_le (by rw [List.length_map]; show ms.length ≤ 3; omega)]
    exact z
theorem look17_ok (hv : Vq vals) (st : St C ω b p n h ms S N hs) (hl : hs.length ≤ 900) (nx : ∀ y10 y11, D.nx [s0, s1, some (refD b), some (.list vals), s4, s5, some (refD p), some (refD n), some (refD h), s9, y10, y11, s12, s13, s14] ω) :
    look17 C D [s0, s1, some (refD b), some (.list vals), s4, s5, some (refD p), some (refD n), some (refD h), s9, s10, s11, s12, s13, s14] ω := by
  have sl : 1000 ≤ sizeLine := by decide
  have l3 := st.pool.len
  have sub : ∀ x ∈ cutD hs (some (-12)) none, x ∈ hs := fun x hx => List.mem_of_mem_drop (List.mem_of_mem_take hx)
  have cm : cutD (fromL hs) (some (-12)) none = fromL (cutD hs (some (-12)) none) := by
    unfold cutD fromL
    rw [List.length_map, List.map_take, List.map_drop]
  unfold look17 dFor diData dOp
  refine pairs_ok st ?_
  unfold dSl dVar dNeg dC
  simp only [List.getElem?_cons_succ, List.getElem?_cons_zero]
  unfold slD
  rw [rsv_cell st.held]
  show addD (.list (fromL (ms.map fun m => (m, S m)))) (.list (cutD (fromL hs) (some (-12)) none)) ω _
  rw [cm]
  refine ⟨?_, _, rfl, ?_⟩
  · unfold fromL
    have : (cutD hs (some (-12)) none).length ≤ hs.length := by
      unfold cutD
      rw [List.length_take, List.length_drop]
      omega
    rw [List.length_map, List.length_map, List.length_map]
    omega
  · have e : fromL (ms.map fun m => (m, S m)) ++ fromL (cutD hs (some (-12)) none) = fromL ((ms.map fun m => (m, S m)) ++ cutD hs (some (-12)) none) := by unfold fromL; rw [List.map_append]
    rw [e]
    refine loopQ_ok hv (fun x hx => ?_) nx
    rcases List.mem_append.mp hx with hx | hx
    · obtain ⟨m, hm, rfl⟩ := List.mem_map.mp hx
      exact ⟨st.at_k hm, st.pool.ok m hm⟩
    · exact ⟨st.at_ x (sub x hx), st.ok x (sub x hx)⟩
theorem isin17_ok (xc : OS K mg C) (ic : InsK K C) (st : St C ω b p n h ms S N hs) (nx : ∀ ω', St C ω' b p n h ms S N hs → D.nx [s0, s1, some (refD b), some (.list vals), s4, s5, some (refD p), some (refD n), some (refD h), s9, s10, s11, s12, s13, s14] ω') :
    isin17 K C D [s0, s1, some (refD b), some (.list vals), s4, s5, some (refD p), some (refD n), some (refD h), s9, s10, s11, s12, s13, s14] ω := by
  have sl : 1000 ≤ sizeLine := by decide
  have l3 := st.pool.len
  refine ⟨p, _, rfl, st.pool.hp, by rw [List.length_map]; omega, fun i acc ω2 => ω2 = ω ∧ acc = List.replicate i (.bool true), ⟨rfl, rfl⟩, fun i acc ω2 z => by rw [z.1]; exact st.pool.hp, ?_, ?_⟩
  · rintro i y acc ω2 hy ⟨rfl, rfl⟩ _
    rw [List.getElem?_map] at hy
    obtain ⟨m, hm, rfl⟩ := Option.map_eq_some_iff.mp hy
    obtain ⟨dx, e⟩ := st.at_k (List.mem_of_getElem? hm)
    unfold dgName dYes
    simp only [if_true]
    exact ⟨.ref C, true, .ins (m := "") ⟨m, _, rfl, e, rfl, rfl⟩ xc.cd.cl ic.ha ic.hn ic.htk ic.hm, ic.kc, rfl, by rw [List.replicate_succ']⟩
  · rintro acc ω2 _ ⟨rfl, rfl⟩ p' hp'
    refine ⟨_, List.replicate (ms.map refD).length true, rfl, by rw [rsv_cell updW_same, List.map_replicate], ?_⟩
    have e : (List.replicate (ms.map refD).length true).all id = true := by
      rw [List.all_eq_true]
      intro b hb
      rw [List.eq_of_mem_replicate hb]
      rfl
    rw [e]
    exact iteF (nx _ (st.fresh hp'))
theorem met17_ok (hv : Vq vals) (st : St C ω b p n h ms S N hs) (nx : ∀ y9, D.nx [s0, s1, some (refD b), some (.list vals), s4, s5, some (refD p), some (refD n), some (refD h), y9, s10, s11, s12, s13, s14] ω) :
    met17 C D [s0, s1, some (refD b), some (.list vals), s4, s5, some (refD p), some (refD n), some (refD h), s9, s10, s11, s12, s13, s14] ω := by
  have l3 := st.pool.len
  refine ⟨b, 3, rfl, st.bag, by decide, by decide, fun r r0 r3 => ?_⟩
  obtain ⟨i, rfl⟩ : ∃ i : Nat, r = (i : Int) := ⟨r.toNat, (Int.toNat_of_nonneg r0).symm⟩
  obtain ⟨m, hm⟩ : ∃ m, ms[i]? = some m := ⟨ms[i]'(by omega), List.getElem?_eq_getElem _⟩
  have hp : (ms.map refD)[i]? = some (refD m) := by rw [List.getElem?_map, hm]; rfl
  have hn : ((ms.map N).map refD)[i]? = some (refD (N m)) := by rw [List.map_map, List.getElem?_map, hm]; rfl
  have mm := List.mem_of_getElem? hm
  obtain ⟨dx, em⟩ := st.at_k mm
  have ok := st.pool.ok m mm
  have dp := dep_many (S m)
  have mn := ok.many
  refine ixD_cell st.pool.hp (d := refD m) (atI_n hp) ?_
  refine ixD_cell st.pool.hn (d := refD (N m)) (atI_n hn) (ixD_cell (st.pool.nod m mm) (d := nodeD (S m)) rfl ?_)
  refine ⟨m, dx, S m, vals, rfl, em, fun k => ok.fits k, .node _, by omega, fun v hvv => ?_, ?_, ?_⟩
  · have := hv.all v hvv
    exact ⟨this.val, this.deep, by have := this.size; omega⟩
  · have := hv.len
    omega
  · exact iteF (nx _)
theorem turn17_ok (xc : OS K mg C) (ic : InsK K C) (hv : Vq vals) (st : St C ω b p n h ms S N hs) (hl : hs.length ≤ 800)
    (nx : ∀ ω' ms' S' N' hs' y9 y10 y11, St C ω' b p n h ms' S' N' hs' → hs'.length ≤ hs.length + 6 → D.nx [s0, s1, some (refD b), some (.list vals), s4, s5, some (refD p), some (refD n), some (refD h), y9, y10, y11, s12, s13, s14] ω') :
    turn17 K C D [s0, s1, some (refD b), some (.list vals), s4, s5, some (refD p), some (refD n), some (refD h), s9, s10, s11, s12, s13, s14] ω := by
  refine ⟨b, p, n, h, ms, S, N, hs, rfl, st, by omega, fun ω1 ms1 S1 N1 hs1 st1 l1 => ?_⟩
  refine look17_ok hv st1 (by omega) fun y10 y11 => ?_
  refine isin17_ok xc ic st1 fun ω2 st2 => ?_
  exact met17_ok hv st2 fun y9 => nx _ _ _ _ _ _ _ _ st2 l1
end
end Tx

namespace Tx
open PySem PySem.Spec PyProof.Rows L2
/-! ## k17: the beginning: three names -/
def drawnE (C : Addr) : DTE := dLc (diRange1 (dCons (dC (.int 3)) dNil)) (dgName 5) dYes (dCall (dsLShape C 5) (dCons (dVar 2) (dCons (dC (.int 2)) (dCons (dLstO (dCons (dC (.int 1)) dNil)) dNil)))) [5]
def poolE : DTE := dLcO (dioD (diData (dVar 4))) (dgName 12) dYes (dOp ixD (dVar 12) (dC (.int 0))) [12]
def nodesE : DTE := dLcO (dioD (diData (dVar 4))) (dgName 12) dYes (dLstO (dCons (dOp ixD (dVar 12) (dC (.int 1))) dNil)) [12]
def names17 : DTS := dAsg (dTup (dCons poolE (dCons nodesE (dCons (dLstO dNil) dNil)))) (dgTup 3 (dgCons (dgName 6) (dgCons (dgName 7) (dgCons (dgName 8) dgNil))))
section
variable {C b : Addr} {ω : Wd} {xs : List (Addr × Shp)} {vals : List PyData} {D : DEnds} {q : DQ} {x : DXK} {s0 s1 s2 s3 s4 s5 s6 s7 s8 s9 s10 s11 s12 s13 s14 : Option PyData}
theorem drawn_ok (hb : ω b = some .bag) (z : ∀ ω' xs, xs.length = 3 → ω' b = some .bag → (∀ x ∈ xs, At C ω' x.1 x.2 ∧ OkS x.2) → (xs.map (·.1)).Nodup → q (.list (fromL xs)) ω') :
    drawnE C [s0, s1, some (refD b), s3, s4, s5, s6, s7, s8, s9, s10, s11, s12, s13, s14] ω q x := by
  have one : 1 ≤ sizeLine := by decide
  have three : 3 ≤ sizeLine := by decide
  refine ⟨by decide, by decide, by rw [List.length_map, List.length_range]; exact three, fun i acc ω2 => ∃ xs : List (Addr × Shp), acc = fromL xs ∧ xs.length = i ∧ ω2 b = some .bag ∧ (∀ x ∈ xs, At C ω2 x.1 x.2 ∧ OkS x.2) ∧ (xs.map (·.1)).Nodup, ⟨[], rfl, rfl, hb, (fun _ h => (nomatch h)), List.nodup_nil⟩, ?_, ?_⟩
  · rintro i y acc ω2 hy ⟨xs, rfl, rfl, hb2, hx, nd⟩ _
    unfold dgName dYes
    simp only [if_true]
    refine ⟨one, fun l hl => ?_⟩
    have bl : b ≠ l := fun e => by rw [e, hl] at hb2; cases hb2
    refine ⟨b, l, 2, 1, rfl, by rw [updW_ne bl]; exact hb2, updW_same, by decide, by decide, fun s m ω3 sr => ?_⟩
    have new := SubW.no (kept (x := .lst [.int 1]) hl) sr.new_
    refine ⟨xs ++ [(m, s)], by unfold fromL; rw [List.map_append]; rfl, by rw [List.length_append]; rfl, sr.bag, fun x hx2 => ?_, ?_⟩
    · rcases List.mem_append.mp hx2 with hx2 | hx2
      · obtain ⟨⟨dx, a1⟩, a2⟩ := hx x hx2
        refine ⟨⟨dx, sr.keep _ _ (fun e => ?_) (kept hl _ _ a1)⟩, a2⟩
        rw [e, hl] at a1
        cases a1
      · rw [List.mem_singleton.mp hx2]
        have h1 := sr.len
        have h2 : lb 2 = 10 := rfl
        exact ⟨sr.at_, .of_len sr.low (by show s.len ≤ 12; omega)⟩
    · rw [List.map_append, List.nodup_append]
      refine ⟨nd, by simp, fun a ha b hb => ?_⟩
      obtain ⟨x, hx2, rfl⟩ := List.mem_map.mp ha
      obtain ⟨⟨dx, a1⟩, a2⟩ := hx x hx2
      simp only [List.map_cons, List.map_nil, List.mem_singleton] at hb
      subst hb
      intro e
      rw [e, new] at a1
      cases a1
  · rintro acc ω2 _ ⟨xs, rfl, hl, hb2, hx, nd⟩
    rw [List.length_map, List.length_range] at hl
    exact z ω2 xs hl hb2 hx nd
theorem pool_ok (l3 : xs.length = 3) (z : ∀ p, ω p = none → q (refD p) (updW ω p (.lst ((xs.map (·.1)).map refD)))) : poolE [s0, s1, s2, s3, some (.list (fromL xs)), s5, s6, s7, s8, s9, s10, s11, s12, s13, s14] ω q x := by
  have three : 3 ≤ sizeLine := by decide
  refine ⟨fromL xs, rfl, by rw [List.length_map, l3]; exact three, fun i acc ω2 => ω2 = ω ∧ acc = ((xs.take i).map (·.1)).map refD, ⟨rfl, rfl⟩, fun _ _ _ _ => trivial, ?_, ?_⟩
  · rintro i y acc ω2 hy ⟨rfl, rfl⟩ _
    rw [List.getElem?_map] at hy
    obtain ⟨v, hv, rfl⟩ := Option.map_eq_some_iff.mp hy
    unfold dgName dYes
    simp only [if_true]
    refine ⟨refD v.1, rfl, rfl, ?_⟩
    rw [← tk_snoc hv, List.map_append, List.map_append]
    rfl
  · rintro acc ω2 _ ⟨rfl, rfl⟩ p hp
    rw [List.length_map, List.take_length]
    exact z p hp
theorem nodes_ok (l3 : xs.length = 3) (z : ∀ (ns : List Addr) (n : Addr) (ω' : Wd), ns.length = 3 → SubW ω ω' → (∀ (j : Nat) (x : Addr × Shp) (a : Addr), xs[j]? = some x → ns[j]? = some a → ω' a = some (.lst [nodeD x.2])) → ns.Nodup → (∀ a ∈ ns, ω a = none) → ω n = none → n ∉ ns → ω' n = some (.lst (ns.map refD)) → q (refD n) ω') :
    nodesE [s0, s1, s2, s3, some (.list (fromL xs)), s5, s6, s7, s8, s9, s10, s11, s12, s13, s14] ω q x := by
  have one : 1 ≤ sizeLine := by decide
  have three : 3 ≤ sizeLine := by decide
  refine ⟨fromL xs, rfl, by rw [List.length_map, l3]; exact three, fun i acc ω2 => ∃ ns : List Addr, acc = ns.map refD ∧ ns.length = i ∧ SubW ω ω2 ∧ (∀ (j : Nat) (x : Addr × Shp) (a : Addr), xs[j]? = some x → ns[j]? = some a → ω2 a = some (.lst [nodeD x.2])) ∧ ns.Nodup ∧ (∀ a ∈ ns, ω a = none ∧ ω2 a ≠ none),
    ⟨[], rfl, rfl, SubW.id, (fun _ _ _ _ h => (nomatch h)), List.nodup_nil, (fun _ h => (nomatch h))⟩, fun _ _ _ _ => trivial, ?_, ?_⟩
  · rintro i y acc ω2 hy ⟨ns, rfl, rfl, sub, hc, nd, hn⟩ _
    rw [List.getElem?_map] at hy
    obtain ⟨v, hv, rfl⟩ := Option.map_eq_some_iff.mp hy
    unfold dgName dYes
    simp only [if_true]
    refine ⟨nodeD v.2, rfl, one, fun a ha => ?_⟩
    refine ⟨ns ++ [a], by rw [List.map_append]; rfl, by rw [List.length_append]; rfl, sub.trans (kept ha), fun j x c hx hc2 => ?_, ?_, fun c hc2 => ?_⟩
    · rw [List.getElem?_append] at hc2
      split at hc2
      · exact kept ha _ _ (hc j x c hx hc2)
      · have hj := (List.getElem?_eq_some_iff.mp hc2).1
        have e : j = ns.length := by
          have : j - ns.length < 1 := hj
          omega
        subst e
        rw [Nat.sub_self] at hc2
        cases hc2
        rw [hv] at hx
        cases hx
        exact updW_same
    · rw [List.nodup_append]
      refine ⟨nd, by simp, fun c hc2 d hd => ?_⟩
      rw [List.mem_singleton.mp hd]
      intro e
      exact (hn c hc2).2 (e ▸ ha)
    · rcases List.mem_append.mp hc2 with hc2 | hc2
      · refine ⟨(hn c hc2).1, fun e => ?_⟩
        by_cases g : c = a
        · rw [g, updW_same] at e; cases e
        · rw [updW_ne g] at e; exact (hn c hc2).2 e
      · rw [List.mem_singleton.mp hc2]
        exact ⟨sub.no ha, by rw [updW_same]; exact fun h => nomatch h⟩
  · rintro acc ω2 _ ⟨ns, rfl, hl, sub, hc, nd, hn⟩ p hp
    rw [List.length_map, l3] at hl
    exact z ns p _ hl (sub.trans (kept hp)) (fun j x a h1 h2 => kept hp _ _ (hc j x a h1 h2)) nd (fun a ha => (hn a ha).1) (sub.no hp) (fun h => (hn p h).2 hp) updW_same
theorem three_of {α : Type} {l : List α} (h : l.length = 3) : ∃ a b c, l = [a, b, c] := by
  match l, h with
  | [a, b, c], _ => exact ⟨a, b, c, rfl⟩
theorem names17_ok (l3 : xs.length = 3) (hb : ω b = some .bag) (hx : ∀ x ∈ xs, At C ω x.1 x.2 ∧ OkS x.2) (nd : (xs.map (·.1)).Nodup)
    (nx : ∀ ω' p n h ms S N, St C ω' b p n h ms S N [] → D.nx [s0, s1, s2, s3, some (.list (fromL xs)), s5, some (refD p), some (refD n), some (refD h), s9, s10, s11, s12, s13, s14] ω') :
    names17 D [s0, s1, s2, s3, some (.list (fromL xs)), s5, s6, s7, s8, s9, s10, s11, s12, s13, s14] ω := by
  have zero : 0 ≤ sizeLine := by decide
  have three : 3 ≤ sizeLine := by decide
  unfold names17 dAsg dTup dCons
  refine pool_ok l3 fun p hp => ?_
  refine nodes_ok l3 fun ns n ω2 ln sub hc nn hn n0 nns hcell => ?_
  refine ⟨zero, fun h hh => ⟨three, rfl, rfl, ?_⟩⟩
  have s2 : SubW ω (updW ω p (.lst ((xs.map (·.1)).map refD))) := kept hp
  have s3 : SubW ω2 (updW ω2 h (.lst [])) := kept hh
  have sa : SubW ω (updW ω2 h (.lst [])) := (s2.trans sub).trans s3
  have cp : updW ω2 h (.lst []) p = some (.lst ((xs.map (·.1)).map refD)) := s3 _ _ (sub _ _ updW_same)
  have cn : updW ω2 h (.lst []) n = some (.lst (ns.map refD)) := s3 _ _ hcell
  have hx2 : ∀ x ∈ xs, At C (updW ω2 h (.lst [])) x.1 x.2 ∧ OkS x.2 := fun x h => ⟨(hx x h).1.keep sa, (hx x h).2⟩
  have hc2 : ∀ (j : Nat) (x : Addr × Shp) (a : Addr), xs[j]? = some x → ns[j]? = some a → updW ω2 h (.lst []) a = some (.lst [nodeD x.2]) := fun j x a h1 h2 => s3 _ _ (hc j x a h1 h2)
  have hb2 := sa _ _ hb
  have pn : p ≠ n := fun e => by rw [← e, updW_same] at n0; cases n0
  have pns : ∀ a ∈ ns, a ≠ p := fun a ha e => by have := hn a ha; rw [e, updW_same] at this; cases this
  have hp2 : h ≠ p := fun e => by rw [e, sub _ _ updW_same] at hh; cases hh
  have hn2 : h ≠ n := fun e => by rw [e, hcell] at hh; cases hh
  have hh2 : updW ω2 h (.lst []) h = some (.lst []) := updW_same
  have hns : ∀ a ∈ ns, a ≠ h := fun a ha e => by
    obtain ⟨j, hj, ej⟩ := List.getElem_of_mem ha
    have := hc j (xs[j]'(by omega)) a (List.getElem?_eq_getElem _) (by rw [← ej]; exact List.getElem?_eq_getElem _)
    rw [e, hh] at this
    cases this
  generalize updW ω2 h (.lst []) = ω3 at cp cn hx2 hc2 hb2 hh2
  obtain ⟨x0, x1, x2, rfl⟩ := three_of l3
  obtain ⟨n0', n1, n2, rfl⟩ := three_of ln
  obtain ⟨m0, t0⟩ := x0
  obtain ⟨m1, t1⟩ := x1
  obtain ⟨m2, t2⟩ := x2
  simp only [List.map_cons, List.map_nil, List.nodup_cons, List.mem_cons, List.not_mem_nil, or_false, not_or, not_false_eq_true, List.nodup_nil, and_true] at nd nn nns
  obtain ⟨⟨d01, d02⟩, d12⟩ := nd
  obtain ⟨⟨e01, e02⟩, e12⟩ := nn
  have f10 := Ne.symm d01
  have f20 := Ne.symm d02
  have f21 := Ne.symm d12
  have x0 := hx2 (m0, t0) (by simp)
  have x1 := hx2 (m1, t1) (by simp)
  have x2 := hx2 (m2, t2) (by simp)
  have y0 := hc2 0 (m0, t0) n0' rfl rfl
  have y1 := hc2 1 (m1, t1) n1 rfl rfl
  have y2 := hc2 2 (m2, t2) n2 rfl rfl
  refine nx _ p n h [m0, m1, m2] (fun a => if a = m0 then t0 else if a = m1 then t1 else t2) (fun a => if a = m0 then n0' else if a = m1 then n1 else n2) ?_
  have mem : ∀ m ∈ [m0, m1, m2], m = m0 ∨ m = m1 ∨ m = m2 := fun m hm => by simpa using hm
  refine ⟨⟨cp, ?_, rfl, fun m hm => ?_, fun m hm => ?_, fun m hm m' hm' => ?_, fun m hm => ?_, pn, fun m hm => ?_⟩, hb2, hh2, (fun _ h => (nomatch h)), (fun _ h => (nomatch h)), (fun _ h => (nomatch h)), hp2, hn2, fun m hm => ?_⟩
  · rw [cn]
    simp [f10, f20, f21]
  · rcases mem m hm with rfl | rfl | rfl
    · simpa [At] using x0.1
    · simpa [At, f10] using x1.1
    · simpa [At, f20, f21] using x2.1
  · rcases mem m hm with rfl | rfl | rfl
    · simpa using y0
    · simpa [f10] using y1
    · simpa [f20, f21] using y2
  · intro e
    rcases mem m hm with rfl | rfl | rfl <;> rcases mem m' hm' with rfl | rfl | rfl <;> simp_all
  · rcases mem m hm with rfl | rfl | rfl
    · simpa using x0.2
    · simpa [f10] using x1.2
    · simpa [f20, f21] using x2.2
  · have q0 := pns n0' (by simp)
    have q1 := pns n1 (by simp)
    have q2 := pns n2 (by simp)
    rcases mem m hm with rfl | rfl | rfl
    · simp only [if_true]
      exact ⟨q0, Ne.symm nns.1⟩
    · simp only [if_neg f10, if_true]
      exact ⟨q1, Ne.symm nns.2.1⟩
    · simp only [if_neg f20, if_neg f21]
      exact ⟨q2, Ne.symm nns.2.2⟩
  · have q0 := hns n0' (by simp)
    have q1 := hns n1 (by simp)
    have q2 := hns n2 (by simp)
    rcases mem m hm with rfl | rfl | rfl
    · simpa using q0
    · simpa [f10] using q1
    · simpa [f20, f21] using q2
end
end Tx

namespace Tx
open PySem PySem.Spec PyProof.Rows L2
/-! ## k17: the law -/
/-- 0 _law_script, 1 _law_at, 2 _law_bag_here, 3 _law_values, 4 _law_drawn, 5 _law_turn, 6 _law_pool, 7 _law_nodes, 8 _law_held, 9 _law_spot, 10 _law_shape_here, 11 _law_node, 12 _law_row, 13 _law_k, 14 _law_value_here -/
abbrev sLaw : Stmt := top 34
theorem scLaw : FnScope ["_law_script", "_law_at", "_law_bag_here", "_law_values", "_law_drawn", "_law_turn", "_law_pool", "_law_nodes", "_law_held", "_law_spot", "_law_shape_here", "_law_node", "_law_row", "_law_k", "_law_value_here"] ["_law_script"] (defScope sLaw) := ⟨rfl, rfl, rfl, by decide +kernel, rfl, by decide +kernel, by decide +kernel⟩
def check17 (C : Addr) : DTS := dFor (diData (dFrzE (dVar 8))) gQ (chkQ C)
def rest17 (K : PySem.W.Frag) (C : Addr) : DTS := dSeq (dSet 4 (drawnE C)) (dSeq names17 (dSeq (dFor (diRange1 (dCons (dOp addD (dC (.int 1)) (dCall dsTake (dCons (dVar 2) (dCons (dC (.int 8)) dNil)))) dNil)) (dgName 5) (turn17 K C)) (check17 C)))
section
variable {K : PySem.W.Frag} {mg : Str → Option Value} {C b : Addr} {ω : Wd} {vals : List PyData} {D : DEnds} {s0 s1 s4 s5 s6 s7 s8 s9 s10 s11 s12 s13 s14 : Option PyData}
theorem rest17_ok (xc : OS K mg C) (ic : InsK K C) (hv : Vq vals) (hb : ω b = some .bag) (nx : ∀ ω' ρ', ρ'.length = 15 → ρ'[0]? = some s0 → D.nx ρ' ω') :
    rest17 K C D [s0, s1, some (refD b), some (.list vals), s4, s5, s6, s7, s8, s9, s10, s11, s12, s13, s14] ω := by
  unfold rest17 dSeq dSet
  refine drawn_ok hb fun ω1 xs l3 hb1 hx nd => ?_
  refine names17_ok l3 hb1 hx nd fun ω2 p n h ms S N st => ?_
  refine ⟨b, 8, rfl, st.bag, by decide, by decide, fun r r0 r8 => ?_⟩
  refine ⟨by omega, by omega, fun i ρ ω' => ∃ ms S N hs y5 y9 y10 y11, ρ = [s0, s1, some (refD b), some (.list vals), some (.list (fromL xs)), y5, some (refD p), some (refD n), some (refD h), y9, y10, y11, s12, s13, s14] ∧ St C ω' b p n h ms S N hs ∧ hs.length ≤ 6 * i, ⟨ms, S, N, [], _, _, _, _, rfl, st, Nat.le_refl _⟩, ?_, ?_⟩
  · rintro i y ρ ω' hy ⟨ms, S, N, hs, y5, y9, y10, y11, rfl, st, hl⟩
    have hi := (List.getElem?_eq_some_iff.mp hy).1
    rw [List.length_map, List.length_range] at hi
    exact turn17_ok xc ic hv st (by omega) fun ω'' ms' S' N' hs' z9 z10 z11 st' hl' => ⟨ms', S', N', hs', _, _, _, _, rfl, st', by omega⟩
  · rintro ρ ω' ⟨ms, S, N, hs, y5, y9, y10, y11, rfl, st, hl⟩
    refine ⟨h, _, rfl, st.held, _, rfl, ?_⟩
    refine loopQ_ok hv (fun x hx => ⟨?_, st.ok x hx⟩) fun z10 z11 => nx _ _ rfl rfl
    have ne := (st.at_ x hx).lst st.held
    obtain ⟨dx, e⟩ := st.at_ x hx
    refine ⟨dx, ?_⟩
    unfold delW
    rw [if_neg ne]
    exact e
end
section
variable {P : Program} {w : World} {K : PySem.W.Frag} {mg : Str → Option Value} {base : Heap} {C : Addr}
theorem dd_law (xc : OS K mg C) (ic : InsK K C) (h : Has K mg "law" sLaw) (B : Bi mg) (D_law_take : Dfn P w K mg base CX0 1 "_law_take" ["_law_bag_here", "_law_many_here"] (spD K dsTake)) (D_law_bag : Dfn P w K mg base CX0 1 "_law_bag" ["_law_script", "_law_at"] (spD K dsBag)) (D_law_value : Dfn P w K mg base CX0 26 "_law_value" ["_law_bag_here", "_law_deep", "_law_room"] (spD K (dsValue 6)))
    (D_law_has : Dfn P w K mg base CX0 60 "_law_has" ["_law_node", "_law_value_here"] (spD K (dsHas 60))) (D_law_shape : Dfn P w K mg base CX0 20 "_law_shape" ["_law_bag_here", "_law_deep", "_law_left"] (spD K (dsLShape C 5))) (M_contains : Mfn P w K mg base CX0 34 C "__contains__" ["self", "thing"] (spD K (dsContains C)))
    (D_law_step : Dfn P w K mg base CX0 70 "_law_step" ["_law_bag_here", "_law_pool", "_law_nodes", "_law_held"] (spD K (dsStep C))) (D_law_is_met : Dfn P w K mg base CX0 62 "_law_is_met" ["_law_shape_here", "_law_node", "_law_values"] (spD K (dsMet C))) : Dfn P w K mg base CX0 72 "law" ["_law_script"] (spD K dsLaw) := by
  refine dfnD (k := 71) h B scLaw (fun _ _ _ _ _ _ us hl => match us, hl with | [_], _ => rfl) (fun ts ω q x h => ?_) (fun f cv A out s H E c => ⟨_, (dss_cons (ds_for PassesOwn.never rfl (di_range1 (by rfl) c.b.range (da_cons (de_callB (dc_max2 rfl rfl) (by rfl) c.b.max (by decide +kernel) (da_cons de_int (da_cons (de_callB (dc_min2 rfl rfl) (by rfl) c.b.min (by decide +kernel) (da_cons de_int (da_cons (de_callB (dc_len rfl) (by rfl) c.b.len (by decide +kernel) (da_cons (de_var (pv 0)) da_nil)) da_nil))) da_nil))) da_nil)) (dg_name (pg_name (i := 1) scLaw.nd rfl (Or.inl rfl)))
    (dss_cons (ds_set (i := 2) scLaw.nd rfl (Or.inr rfl) (de_d D_law_bag c (by omega) (by rfl) (da_cons (de_var (pv 0)) (da_cons (de_var (pv 1)) da_nil))))
    (dss_cons (ds_setLc (i := 3) (own := [("_law_turn", 5)]) (gd := (dgName 5)) (is := [5]) (tt := dYes) rfl scLaw.nd rfl rfl (sw_true rfl rfl rfl (by decide +kernel)) (di_range1 (by rfl) c.b.range (da_cons de_int da_nil)) (blkOk_by (own := [("_law_turn", 5)]) (N := ["_law_script", "_law_at", "_law_bag_here", "_law_values", "_law_drawn", "_law_turn", "_law_pool", "_law_nodes", "_law_held", "_law_spot", "_law_shape_here", "_law_node", "_law_row", "_law_k", "_law_value_here"]) (sc := defScope sLaw) (by decide +kernel)) (fun _ _ _ _ _ => (dg_name (pg_name (i := 5) scLaw.nd rfl (Or.inl rfl)))) (fun _ _ _ _ _ => dts_nil) (fun _ _ _ _ _ => (de_d D_law_value c (by omega) (by rfl) (da_cons (de_var (pv 2)) (da_cons de_int (da_cons de_int da_nil))))))
    (dss_cons (ds_set (i := 3) scLaw.nd rfl (Or.inl rfl) (de_op (do_add rfl) (de_var (pv 3)) (de_lst (da_cons de_non (da_cons de_str (da_cons de_str (da_cons de_str (da_cons de_str (da_cons (de_lst da_nil) (da_cons (de_lst (da_cons de_non da_nil)) (da_cons (de_lst (da_cons de_str (da_cons (de_lst (da_cons de_str da_nil)) da_nil))) da_nil)))))))))))
    (dss_cons (ds_setLc (i := 4) (own := [("_law_turn", 5)]) (gd := (dgName 5)) (is := [5]) (tt := dYes) rfl scLaw.nd rfl rfl (sw_true rfl rfl rfl (by decide +kernel)) (di_range1 (by rfl) c.b.range (da_cons de_int da_nil)) (blkOk_by (own := [("_law_turn", 5)]) (N := ["_law_script", "_law_at", "_law_bag_here", "_law_values", "_law_drawn", "_law_turn", "_law_pool", "_law_nodes", "_law_held", "_law_spot", "_law_shape_here", "_law_node", "_law_row", "_law_k", "_law_value_here"]) (sc := defScope sLaw) (by decide +kernel)) (fun _ _ _ _ _ => (dg_name (pg_name (i := 5) scLaw.nd rfl (Or.inl rfl)))) (fun _ _ _ _ _ => dts_nil) (fun _ _ _ _ _ => (de_d D_law_shape c (by omega) (by rfl) (da_cons (de_var (pv 2)) (da_cons de_int (da_cons (de_lstO (da_cons de_int da_nil)) da_nil))))))
    (dss_cons (ds_asg (de_tup (da_cons (de_lcO (own := [("_law_row", 12)]) (gd := (dgName 12)) (is := [12]) (tt := dYes) rfl scLaw.nd (dio_d (di_data rfl (de_var (pv 4)))) (blkOk_by (own := [("_law_row", 12)]) (N := ["_law_script", "_law_at", "_law_bag_here", "_law_values", "_law_drawn", "_law_turn", "_law_pool", "_law_nodes", "_law_held", "_law_spot", "_law_shape_here", "_law_node", "_law_row", "_law_k", "_law_value_here"]) (sc := defScope sLaw) (by decide +kernel)) (fun _ _ _ _ _ => (dg_name (pg_name (i := 12) scLaw.nd rfl (Or.inl rfl)))) (fun _ _ _ _ _ => dts_nil) (fun _ _ _ _ _ => (de_ix rfl (de_var (pv 12)) de_int (fun _ _ => rfl)))) (da_cons (de_lcO (own := [("_law_row", 12)]) (gd := (dgName 12)) (is := [12]) (tt := dYes) rfl scLaw.nd (dio_d (di_data rfl (de_var (pv 4)))) (blkOk_by (own := [("_law_row", 12)]) (N := ["_law_script", "_law_at", "_law_bag_here", "_law_values", "_law_drawn", "_law_turn", "_law_pool", "_law_nodes", "_law_held", "_law_spot", "_law_shape_here", "_law_node", "_law_row", "_law_k", "_law_value_here"]) (sc := defScope sLaw) (by decide +kernel)) (fun _ _ _ _ _ => (dg_name (pg_name (i := 12) scLaw.nd rfl (Or.inl rfl)))) (fun _ _ _ _ _ => dts_nil) (fun _ _ _ _ _ => (de_lstO (da_cons (de_ix rfl (de_var (pv 12)) de_int (fun _ _ => rfl)) da_nil)))) (da_cons (de_lstO da_nil) da_nil)))) (dg_tup rfl rfl (dgs_cons (dg_name (pg_name (i := 6) scLaw.nd rfl (Or.inr rfl))) (dgs_cons (dg_name (pg_name (i := 7) scLaw.nd rfl (Or.inr rfl))) (dgs_cons (dg_name (pg_name (i := 8) scLaw.nd rfl (Or.inl rfl))) dgs_nil)))))
    (dss_cons (ds_for PassesOwn.never rfl (di_range1 (by rfl) c.b.range (da_cons (de_op (do_add rfl) de_int (de_d D_law_take c (by omega) (by rfl) (da_cons (de_var (pv 2)) (da_cons de_int da_nil)))) da_nil)) (dg_name (pg_name (i := 5) scLaw.nd rfl (Or.inl rfl)))
    (dss_cons (ds_expr (de_d D_law_step c (by omega) (by rfl) (da_cons (de_var (pv 2)) (da_cons (de_var (pv 6)) (da_cons (de_var (pv 7)) (da_cons (de_var (pv 8)) da_nil))))))
    (dss_cons (ds_for PassesOwn.never rfl (di_data rfl (de_op (do_add rfl) (de_lc (own := [("_law_k", 13)]) (gd := (dgName 13)) (is := [13]) (tt := dYes) rfl scLaw.nd (di_range1 (by rfl) c.b.range (da_cons de_int da_nil)) (blkOk_by (own := [("_law_k", 13)]) (N := ["_law_script", "_law_at", "_law_bag_here", "_law_values", "_law_drawn", "_law_turn", "_law_pool", "_law_nodes", "_law_held", "_law_spot", "_law_shape_here", "_law_node", "_law_row", "_law_k", "_law_value_here"]) (sc := defScope sLaw) (by decide +kernel)) (fun _ _ _ _ _ => (dg_name (pg_name (i := 13) scLaw.nd rfl (Or.inl rfl)))) (fun _ _ _ _ _ => dts_nil) (fun _ _ _ _ _ => (de_tup (da_cons (de_ix rfl (de_var (pv 6)) (de_var (pv 13)) (fun _ _ => rfl)) (da_cons (de_ix rfl (de_ix rfl (de_var (pv 7)) (de_var (pv 13)) (fun _ _ => rfl)) de_int (fun _ _ => rfl)) da_nil))))) (de_sl rfl (de_var (pv 8)) (do_some (de_neg de_int)) do_none))) (dg_tup rfl rfl (dgs_cons (dg_name (pg_name (i := 10) scLaw.nd rfl (Or.inr rfl))) (dgs_cons (dg_name (pg_name (i := 11) scLaw.nd rfl (Or.inr rfl))) dgs_nil)))
    (dss_one (ds_if (dt_cmp (do_ne rfl c.r.units) (de_lc (own := [("_law_value_here", 14)]) (gd := (dgName 14)) (is := [14]) (tt := dYes) rfl scLaw.nd (di_data rfl (de_var (pv 3))) (blkOk_by (own := [("_law_value_here", 14)]) (N := ["_law_script", "_law_at", "_law_bag_here", "_law_values", "_law_drawn", "_law_turn", "_law_pool", "_law_nodes", "_law_held", "_law_spot", "_law_shape_here", "_law_node", "_law_row", "_law_k", "_law_value_here"]) (sc := defScope sLaw) (by decide +kernel)) (fun _ _ _ _ _ => (dg_name (pg_name (i := 14) scLaw.nd rfl (Or.inl rfl)))) (fun _ _ _ _ _ => dts_nil) (fun _ _ _ _ _ => (de_cmpM (dm_in rfl M_contains c (by omega)) (de_var (pv 14)) (de_var (pv 10)) (by rfl)))) (de_lc (own := [("_law_value_here", 14)]) (gd := (dgName 14)) (is := [14]) (tt := dYes) rfl scLaw.nd (di_data rfl (de_var (pv 3))) (blkOk_by (own := [("_law_value_here", 14)]) (N := ["_law_script", "_law_at", "_law_bag_here", "_law_values", "_law_drawn", "_law_turn", "_law_pool", "_law_nodes", "_law_held", "_law_spot", "_law_shape_here", "_law_node", "_law_row", "_law_k", "_law_value_here"]) (sc := defScope sLaw) (by decide +kernel)) (fun _ _ _ _ _ => (dg_name (pg_name (i := 14) scLaw.nd rfl (Or.inl rfl)))) (fun _ _ _ _ _ => dts_nil) (fun _ _ _ _ _ => (de_d D_law_has c (by omega) (by rfl) (da_cons (de_var (pv 11)) (da_cons (de_var (pv 14)) da_nil))))) (nomark _)) (dss_one (ds_ret de_bl)) dss_nil)))
    (dss_cons (ds_if (dt_not (dt_val (de_callB (dc_all rfl rfl) (by rfl) c.b.all (by decide +kernel) (da_cons (de_lcO (own := [("_law_shape_here", 10)]) (gd := (dgName 10)) (is := [10]) (tt := dYes) rfl scLaw.nd (dio_o rfl (de_var (pv 6))) (blkOk_by (own := [("_law_shape_here", 10)]) (N := ["_law_script", "_law_at", "_law_bag_here", "_law_values", "_law_drawn", "_law_turn", "_law_pool", "_law_nodes", "_law_held", "_law_spot", "_law_shape_here", "_law_node", "_law_row", "_law_k", "_law_value_here"]) (sc := defScope sLaw) (by decide +kernel)) (fun _ _ _ _ _ => (dg_name (pg_name (i := 10) scLaw.nd rfl (Or.inl rfl)))) (fun _ _ _ _ _ => dts_nil) (fun _ _ _ _ _ => (de_isC rfl (by rfl) c.b.isinstance (de_var (pv 10)) (pe_gcl xc.cd.gC (by rfl))))) da_nil)))) (dss_one (ds_ret de_bl)) dss_nil)
    (dss_cons (ds_set (i := 9) scLaw.nd rfl (Or.inl rfl) (de_d D_law_take c (by omega) (by rfl) (da_cons (de_var (pv 2)) (da_cons de_int da_nil))))
    (dss_one (ds_if (dt_not (dt_val (de_d D_law_is_met c (by omega) (by rfl) (da_cons (de_ix rfl (de_var (pv 6)) (de_var (pv 9)) (fun _ _ => rfl)) (da_cons (de_ix rfl (de_ix rfl (de_var (pv 7)) (de_var (pv 9)) (fun _ _ => rfl)) de_int (fun _ _ => rfl)) (da_cons (de_var (pv 3)) da_nil)))))) (dss_one (ds_ret de_bl)) dss_nil)))))))
    (dss_one (ds_for PassesOwn.never rfl (di_data rfl (de_frzE (de_var (pv 8)))) (dg_tup rfl rfl (dgs_cons (dg_name (pg_name (i := 10) scLaw.nd rfl (Or.inr rfl))) (dgs_cons (dg_name (pg_name (i := 11) scLaw.nd rfl (Or.inr rfl))) dgs_nil)))
    (dss_one (ds_if (dt_cmp (do_ne rfl c.r.units) (de_lc (own := [("_law_value_here", 14)]) (gd := (dgName 14)) (is := [14]) (tt := dYes) rfl scLaw.nd (di_data rfl (de_var (pv 3))) (blkOk_by (own := [("_law_value_here", 14)]) (N := ["_law_script", "_law_at", "_law_bag_here", "_law_values", "_law_drawn", "_law_turn", "_law_pool", "_law_nodes", "_law_held", "_law_spot", "_law_shape_here", "_law_node", "_law_row", "_law_k", "_law_value_here"]) (sc := defScope sLaw) (by decide +kernel)) (fun _ _ _ _ _ => (dg_name (pg_name (i := 14) scLaw.nd rfl (Or.inl rfl)))) (fun _ _ _ _ _ => dts_nil) (fun _ _ _ _ _ => (de_cmpM (dm_in rfl M_contains c (by omega)) (de_var (pv 14)) (de_var (pv 10)) (by rfl)))) (de_lc (own := [("_law_value_here", 14)]) (gd := (dgName 14)) (is := [14]) (tt := dYes) rfl scLaw.nd (di_data rfl (de_var (pv 3))) (blkOk_by (own := [("_law_value_here", 14)]) (N := ["_law_script", "_law_at", "_law_bag_here", "_law_values", "_law_drawn", "_law_turn", "_law_pool", "_law_nodes", "_law_held", "_law_spot", "_law_shape_here", "_law_node", "_law_row", "_law_k", "_law_value_here"]) (sc := defScope sLaw) (by decide +kernel)) (fun _ _ _ _ _ => (dg_name (pg_name (i := 14) scLaw.nd rfl (Or.inl rfl)))) (fun _ _ _ _ _ => dts_nil) (fun _ _ _ _ _ => (de_d D_law_has c (by omega) (by rfl) (da_cons (de_var (pv 11)) (da_cons (de_var (pv 14)) da_nil))))) (nomark _)) (dss_one (ds_ret de_bl)) dss_nil)))))))))))
    (dss_one (ds_ret de_bl))), fun ts ω q x h => ?_⟩)
  · obtain ⟨a, ns, rfl, _⟩ := h; rfl
  obtain ⟨a, ns, rfl, h63, rfl, z⟩ := h
  have sz : 1000 ≤ sizeLine := by decide
  refine ⟨?_, ?_, fun i ρ ω => ∃ u1 u2 u3 u4 u5 u6 u7 u8 u9 v0 v1 v2 v3 v4 : Option PyData, ρ = [some (scrD a ns), u1, u2, u3, u4, u5, u6, u7, u8, u9, v0, v1, v2, v3, v4], ⟨none, none, none, none, none, none, none, none, none, none, none, none, none, none, rfl⟩, ?_, ?_⟩
  · show -(2 ^ 62) ≤ _
    split <;> (try split) <;> omega
  · show _ < (2 : Int) ^ 62
    rw [List.length_map]
    split <;> (try split) <;> omega
  · rintro i y ρ ω hy ⟨u1, u2, u3, u4, u5, u6, u7, u8, u9, v0, v1, v2, v3, v4, rfl⟩
    have hi : i < 64 := by
      have := (List.getElem?_eq_some_iff.mp hy).1
      rw [List.length_map, List.length_range, List.length_map] at this
      split at this <;> (try split at this) <;> omega
    obtain ⟨i', hi', rfl⟩ : ∃ i' : Nat, i' = i ∧ y = .int (i' : Int) := by
      rw [List.getElem?_map] at hy
      obtain ⟨k, hk, rfl⟩ := Option.map_eq_some_iff.mp hy
      have := List.getElem?_eq_some_iff.mp hk
      exact ⟨k, by simpa using this.2.symm, rfl⟩
    refine ⟨a, ns, (i' : Int), rfl, by omega, by omega, fun b hb => ?_⟩
    have hB : updW ω b .bag b = some .bag := updW_same
    generalize updW ω b .bag = ω1 at hB
    refine ⟨by decide, by decide, by rw [List.length_map, List.length_range]; show 6 ≤ sizeLine; omega, fun i acc ω4 => ω4 = ω1 ∧ acc.length ≤ i ∧ ∀ d ∈ acc, Val 3 12 d, ⟨rfl, Nat.le_refl _, fun _ h => (nomatch h)⟩, ?_, ?_⟩
    · rintro j y acc ω4 _ ⟨rfl, l, v⟩ _
      simp only [dAnd, dAndV, dAsg, dC, dCB, dCall, dCallX, dChain, dCons, dDrop, dErr1, dIf, dIfS, dIsi, dLst, dNext, dNil, dNot, dNotV, dOp, dOr, dOrV, dPar, dRet, dRetN, dRetS, dSeq, dSet, dSl, dTest, dTup, dVar, dgCons, dgName, dgNil, dgTup, dNeg, endsD, xcOf, dFz, startD, wipeD, List.getElem?_cons_zero, List.getElem?_cons_succ, List.set_cons_zero, List.set_cons_succ, List.map_cons, List.map_nil, List.cons_append, List.nil_append, List.length_cons, List.length_nil, List.replicate]
      unfold dYes
      simp only [dAnd, dAndV, dAsg, dC, dCB, dCall, dCallX, dChain, dCons, dDrop, dErr1, dIf, dIfS, dIsi, dLst, dNext, dNil, dNot, dNotV, dOp, dOr, dOrV, dPar, dRet, dRetN, dRetS, dSeq, dSet, dSl, dTest, dTup, dVar, dgCons, dgName, dgNil, dgTup, dNeg, endsD, xcOf, dFz, startD, wipeD, List.getElem?_cons_zero, List.getElem?_cons_succ, List.set_cons_zero, List.set_cons_succ, List.map_cons, List.map_nil, List.cons_append, List.nil_append, List.length_cons, List.length_nil, List.replicate]
      refine ⟨b, 3, 12, rfl, hB, by decide, by decide, by decide, by decide, fun d vd => ⟨rfl, by rw [List.length_append]; show acc.length + 1 ≤ _; omega, fun e he => ?_⟩⟩
      rcases List.mem_append.mp he with he | he
      · exact v e he
      · rw [List.mem_singleton.mp he]; exact vd
    · rintro acc ω4 _ ⟨rfl, l, v⟩
      rw [List.length_map, List.length_range] at l
      have l : acc.length ≤ 6 := l
      refine ⟨by decide, by decide, by decide, by decide, by decide, ?_, ?_⟩
      · show acc.length + 8 ≤ sizeLine
        omega
      have hv : Vq (acc ++ [.none, .str "", .str "a", .str "abc", .str "abcd", .list [], .list [.none], .list [.str "ab", .list [.str ""]]]) := ⟨by rw [List.length_append]; show acc.length + 8 ≤ 100; omega, fun e he => by
        rcases List.mem_append.mp he with he | he
        · exact (v e he).mono (by decide) (by decide)
        · simp only [List.mem_cons, List.not_mem_nil, or_false] at he
          rcases he with rfl | rfl | rfl | rfl | rfl | rfl | rfl | rfl <;> exact ⟨by decide +kernel, by decide +kernel, by decide +kernel⟩⟩
      refine rest17_ok xc ic hv hB fun ω' ρ' h15 h0 => ?_
      match ρ', h15, h0 with
      | [_, v1, v2, v3, v4, v5, v6, v7, v8, v9, w0, w1, w2, w3, w4], _, h0 =>
        cases h0
        exact ⟨_, _, _, _, _, _, _, _, _, _, _, _, _, _, rfl⟩
  · rintro ρ ω ⟨u1, u2, u3, u4, u5, u6, u7, u8, u9, v0, v1, v2, v3, v4, rfl⟩
    exact z _
end
end Tx

namespace Tx
open PySem PySem.Spec PyProof.Rows L2
theorem main {P : Program} {w : World} {K : PySem.W.Frag} {mg : Str → Option Value} {base : Heap} {CShape : Addr} (B : Bi mg) (hTake : Has K mg "_law_take" sTake) (hBag : Has K mg "_law_bag" sBag) (hText : Has K mg "_law_text" sText) (hSize : Has K mg "_law_size" sSize) (hValue : Has K mg "_law_value" sValue) (hIsText : Has K mg "is_text" sIsText) (hWrongD : Has K mg "wrong_place" sWrongD) (hIsValue : Has K mg "is_value" sIsValue) (hCopied : Has K mg "copied" sCopied) (hMoved : Has K mg "moved" sMoved) (hJoint : Has K mg "joint" sJoint) (hNums : Has K mg "numbers_of" sNums) (hSettled : Has K mg "settled" sSettled) (hAllS : Has K mg "all_settled" sAllS) (hTruths : Has K mg "truths" sTruths) (hVT : Has K mg "value_truths" sVT) (hLongerT : Has K mg "longer_truths" sLongerT) (hFirsts : Has K mg "first_rows" sFirsts) (hLongerR : Has K mg "longer_row" sLongerR) (hIsNew : Has K mg "is_new" sIsNew) (hLeastR : Has K mg "least_rows" sLeastR) (hLeaf : Has K mg "_law_leaf" sLeaf) (hLHas : Has K mg "_law_has" sLHas) (hLShape : Has K mg "_law_shape" sLShape) (hLMany : Has K mg "_law_many" sLMany) (hLNests : Has K mg "_law_nests" sLNests) (hLFits : Has K mg "_law_fits" sLFits) (hIsMet : Has K mg "_law_is_met" sIsMet) (hLStep : Has K mg "_law_step" sLStep) (hLaw : Has K mg "law" sLaw) (gLETTERS : ∃ t, mg "LETTERS" = some (.str "abcdefghijklmnopqrstuvwxyz" t)) (xShape : OS K mg CShape) (hSInit : HasM K CShape "__init__" "Shape.__init__" sSInit) (hSContains : HasM K CShape "__contains__" "Shape.__contains__" sSContains) (hSOr : HasM K CShape "__or__" "Shape.__or__" sSOr) (hSAnd : HasM K CShape "__and__" "Shape.__and__" sSAnd) (hSSub : HasM K CShape "__sub__" "Shape.__sub__" sSSub) (hSInv : HasM K CShape "__invert__" "Shape.__invert__" sSInv) (hSIor : HasM K CShape "__ior__" "Shape.__ior__" sSIor) (hSIand : HasM K CShape "__iand__" "Shape.__iand__" sSIand) (hSBool : HasM K CShape "__bool__" "Shape.__bool__" sSBool) (hSLeast : HasM K CShape "least" "Shape.least" sSLeast) (hSLeastB : HasM K CShape "least_beyond" "Shape.least_beyond" sSLeastB) (yShape : OSB K CShape) (iShape : InsK K CShape) (hKEvery : HasK K CShape "every" "Shape.every" sKEvery []) (hKNever : HasK K CShape "never" "Shape.never" sKNever []) (hKNothing : HasK K CShape "nothing" "Shape.nothing" sKNothing []) (hKTexts : HasK K CShape "texts" "Shape.texts" sKTexts [V.int 0, V.non]) (hKLists : HasK K CShape "lists" "Shape.lists" sKLists []) (hKNested : HasK K CShape "nested" "Shape.nested" sKNested []) :
    Dfn P w K mg base CX0 72 "law" ["_law_script"] (spLaw K) := by
  have DT := d_take (P := P) (w := w) (base := base) hTake B
  have DX := d_text hText B DT
  have DV := d_value hValue B DT DX (d_size hSize B 20) 6 (by decide)
  have tk := dd_take (P := P) (w := w) (base := base) hTake B
  have DW := dd_wrongD (P := P) (w := w) (base := base) hWrongD B (dd_isText (d_is_text hIsText B gLETTERS)) 30
  have AS := dd_allS (P := P) (w := w) (base := base) hAllS B (dd_settled hSettled B)
  have TR := dd_truths hTruths B AS
  have VT := dd_vt hVT B TR 30
  have MI := m_sinit (P := P) (w := w) (base := base) xShape hSInit B
  have MC := m_scontains xShape hSContains B (dd_isValue hIsValue B DW) VT
  have DJ := dd_joint (P := P) (w := w) (base := base) hJoint B (dd_moved hMoved B)
  have kn := k_never xShape hKNever B MI
  have k0 := k_nothing xShape hKNothing B MI
  have kl := k_lists xShape hKLists B MI
  have kd := k_nested xShape hKNested B MI
  have lf := dd_leaf xShape hLeaf B tk (k_every xShape hKEvery B MI) kn k0 (k_texts xShape hKTexts B MI 0 (by decide)) (k_texts xShape hKTexts B MI 1 (by decide)) (k_texts xShape hKTexts B MI 2 (by decide))
  have MO := m_or xShape hSOr B DJ MI
  have MA := m_and xShape hSAnd B DJ MI
  have MS := m_sub xShape hSSub B DJ MI
  have MN := m_inv xShape hSInv B MI
  have LR := dd_leastR hLeastR B (dd_firsts hFirsts B (dd_nums hNums B) (dd_vt hVT B TR 2)) (dd_longerR hLongerR B (dd_longerT hLongerT B AS)) (dd_isNew hIsNew B)
  have ML := m_least xShape hSLeast B (m_leastB xShape hSLeastB B DJ LR (dd_copied (P := P) (w := w) (base := base) hCopied B 30)) kn
  have MB := m_sbool xShape hSBool B LR
  have NE := dd_nests (P := P) (w := w) (base := base) hLNests B 60
  have MT := dd_met xShape hIsMet B NE (dd_has hLHas B 60) (dd_size hSize B 30) ML MB
  have LS := (dd_lshape xShape yShape hLShape B tk lf kl kd MO MA MS MN 5).mono (show 9 ≤ 20 by decide)
  have ST := dd_step xShape yShape hLStep B tk (dd_fits hLFits B (dd_many hLMany B 60) NE) LS MO MA MS MN (m_ior xShape hSIor B DJ) (m_iand xShape hSIand B DJ) k0 kl kd
  exact law_of (dd_law xShape iShape hLaw B tk (dd_bag hBag B) (dd_value DV) (dd_has hLHas B 60) LS MC ST MT)
end Tx
open PySem PySem.W PyProof.Rows
set_option maxRecDepth 100000 in
set_option maxHeartbeats 0 in
theorem PySem.Challenge.cw_textorlist_k17_shapes_changed_in_place_holds : PySem.Challenge.rw_textorlist_k17_shapes_changed_in_place.Holds := by
  w_on; o_law; k_head; (case hw => w_witness2)
  k_fill
  refine Tx.walkG (l := PySem.Challenge.rw_textorlist_k17_shapes_changed_in_place) (k := 72) (x := "_law_script") (sp := Tx.spLaw) rfl rfl ⟨rfl, by decide, by decide⟩ (fun w h Y => PySem.W.kIn_of Y) ?F (fun K H a ns h1 h2 => ⟨a, ns, rfl, h2, h1, fun _ => rfl⟩)
  case F =>
    intro w mg fa h KX G hmg base b1 b2
    refine' Tx.to_law hmg (Tx.main (base := base) (Tx.bi_of KX G ?b0 ?b1 ?b2 ?b3 ?b4 ?b5 ?b6 ?b7 ?b8 ?b9 ?b10 ?b11 ?b12 ?b13 ?b14 ?b15 ?b16 ?b17 ?b18 ?b19) (Tx.has_of (st := Tx.sTake) KX G ?ha0 ?hl0 ?hc0 ?hk0) (Tx.has_of (st := Tx.sBag) KX G ?ha1 ?hl1 ?hc1 ?hk1) (Tx.has_of (st := Tx.sText) KX G ?ha2 ?hl2 ?hc2 ?hk2) (Tx.has_of (st := Tx.sSize) KX G ?ha3 ?hl3 ?hc3 ?hk3) (Tx.has_of (st := Tx.sValue) KX G ?ha4 ?hl4 ?hc4 ?hk4) (Tx.has_of (st := Tx.sIsText) KX G ?ha5 ?hl5 ?hc5 ?hk5) (Tx.has_of (st := Tx.sWrongD) KX G ?ha6 ?hl6 ?hc6 ?hk6) (Tx.has_of (st := Tx.sIsValue) KX G ?ha7 ?hl7 ?hc7 ?hk7) (Tx.has_of (st := Tx.sCopied) KX G ?ha8 ?hl8 ?hc8 ?hk8) (Tx.has_of (st := Tx.sMoved) KX G ?ha9 ?hl9 ?hc9 ?hk9) (Tx.has_of (st := Tx.sJoint) KX G ?ha10 ?hl10 ?hc10 ?hk10) (Tx.has_of (st := Tx.sNums) KX G ?ha11 ?hl11 ?hc11 ?hk11) (Tx.has_of (st := Tx.sSettled) KX G ?ha12 ?hl12 ?hc12 ?hk12) (Tx.has_of (st := Tx.sAllS) KX G ?ha13 ?hl13 ?hc13 ?hk13) (Tx.has_of (st := Tx.sTruths) KX G ?ha14 ?hl14 ?hc14 ?hk14) (Tx.has_of (st := Tx.sVT) KX G ?ha15 ?hl15 ?hc15 ?hk15) (Tx.has_of (st := Tx.sLongerT) KX G ?ha16 ?hl16 ?hc16 ?hk16) (Tx.has_of (st := Tx.sFirsts) KX G ?ha17 ?hl17 ?hc17 ?hk17) (Tx.has_of (st := Tx.sLongerR) KX G ?ha18 ?hl18 ?hc18 ?hk18) (Tx.has_of (st := Tx.sIsNew) KX G ?ha19 ?hl19 ?hc19 ?hk19) (Tx.has_of (st := Tx.sLeastR) KX G ?ha20 ?hl20 ?hc20 ?hk20) (Tx.has_of (st := Tx.sLeaf) KX G ?ha21 ?hl21 ?hc21 ?hk21) (Tx.has_of (st := Tx.sLHas) KX G ?ha22 ?hl22 ?hc22 ?hk22) (Tx.has_of (st := Tx.sLShape) KX G ?ha23 ?hl23 ?hc23 ?hk23) (Tx.has_of (st := Tx.sLMany) KX G ?ha24 ?hl24 ?hc24 ?hk24) (Tx.has_of (st := Tx.sLNests) KX G ?ha25 ?hl25 ?hc25 ?hk25) (Tx.has_of (st := Tx.sLFits) KX G ?ha26 ?hl26 ?hc26 ?hk26) (Tx.has_of (st := Tx.sIsMet) KX G ?ha27 ?hl27 ?hc27 ?hk27) (Tx.has_of (st := Tx.sLStep) KX G ?ha28 ?hl28 ?hc28 ?hk28) (Tx.has_of (st := Tx.sLaw) KX G ?ha29 ?hl29 ?hc29 ?hk29) (Tx.const_of KX G ?co0) (Tx.os_of (Tx.clsD_of KX G ?s0aC ?s0pg ?s0hd ?s0po ?s0sa ?s0mk ?s0kp) ?s0na ?s0rd ?s0lt) (Tx.hasM_of (st := Tx.sSInit) ?m0a ?m0l ?m0c ?m0k ?m0i) (Tx.hasM_of (st := Tx.sSContains) ?m1a ?m1l ?m1c ?m1k ?m1i) (Tx.hasM_of (st := Tx.sSOr) ?m2a ?m2l ?m2c ?m2k ?m2i) (Tx.hasM_of (st := Tx.sSAnd) ?m3a ?m3l ?m3c ?m3k ?m3i) (Tx.hasM_of (st := Tx.sSSub) ?m4a ?m4l ?m4c ?m4k ?m4i) (Tx.hasM_of (st := Tx.sSInv) ?m5a ?m5l ?m5c ?m5k ?m5i) (Tx.hasM_of (st := Tx.sSIor) ?m6a ?m6l ?m6c ?m6k ?m6i) (Tx.hasM_of (st := Tx.sSIand) ?m7a ?m7l ?m7c ?m7k ?m7i) (Tx.hasM_of (st := Tx.sSBool) ?m8a ?m8l ?m8c ?m8k ?m8i) (Tx.hasM_of (st := Tx.sSLeast) ?m9a ?m9l ?m9c ?m9k ?m9i) (Tx.hasM_of (st := Tx.sSLeastB) ?m10a ?m10l ?m10c ?m10k ?m10i) (Tx.osb_of ?t0sf ?t0ra ?t0qa ?t0rb ?t0qb ?t0rc ?t0qc) (Tx.InsK.mk ?i0ha ?i0hn ?i0ht ?i0hm ?i0kc) (Tx.hasK_of0 (st := Tx.sKEvery) ?q0rd ?q0at ?q0rc ?q0fi ?q0l ?q0c ?q0k) (Tx.hasK_of0 (st := Tx.sKNever) ?q1rd ?q1at ?q1rc ?q1fi ?q1l ?q1c ?q1k) (Tx.hasK_of0 (st := Tx.sKNothing) ?q2rd ?q2at ?q2rc ?q2fi ?q2l ?q2c ?q2k) (Tx.hasK_of2 (st := Tx.sKTexts) ?q3rd ?q3at ?q3rc ?q3fi ?q3l ?q3lt ?q3c ?q3k) (Tx.hasK_of0 (st := Tx.sKLists) ?q4rd ?q4at ?q4rc ?q4fi ?q4l ?q4c ?q4k) (Tx.hasK_of0 (st := Tx.sKNested) ?q5rd ?q5at ?q5rc ?q5fi ?q5l ?q5c ?q5k))
    (case b0 => first | k_is | kit_is | k_exc | decide +kernel | rfl | exact .inl rfl | exact .inr ⟨_, rfl⟩)
    (case b1 => first | k_is | kit_is | k_exc | decide +kernel | rfl | exact .inl rfl | exact .inr ⟨_, rfl⟩)
    (case b2 => first | k_is | kit_is | k_exc | decide +kernel | rfl | exact .inl rfl | exact .inr ⟨_, rfl⟩)
    (case b3 => first | k_is | kit_is | k_exc | decide +kernel | rfl | exact .inl rfl | exact .inr ⟨_, rfl⟩)
    (case b4 => first | k_is | kit_is | k_exc | decide +kernel | rfl | exact .inl rfl | exact .inr ⟨_, rfl⟩)
    (case b5 => first | k_is | kit_is | k_exc | decide +kernel | rfl | exact .inl rfl | exact .inr ⟨_, rfl⟩)
    (case b6 => first | k_is | kit_is | k_exc | decide +kernel | rfl | exact .inl rfl | exact .inr ⟨_, rfl⟩)
    (case b7 => first | k_is | kit_is | k_exc | decide +kernel | rfl | exact .inl rfl | exact .inr ⟨_, rfl⟩)
    (case b8 => first | k_is | kit_is | k_exc | decide +kernel | rfl | exact .inl rfl | exact .inr ⟨_, rfl⟩)
    (case b9 => first | k_is | kit_is | k_exc | decide +kernel | rfl | exact .inl rfl | exact .inr ⟨_, rfl⟩)
    (case b10 => first | k_is | kit_is | k_exc | decide +kernel | rfl | exact .inl rfl | exact .inr ⟨_, rfl⟩)
    (case b11 => first | k_is | kit_is | k_exc | decide +kernel | rfl | exact .inl rfl | exact .inr ⟨_, rfl⟩)
    (case b12 => first | k_is | kit_is | k_exc | decide +kernel | rfl | exact .inl rfl | exact .inr ⟨_, rfl⟩)
    (case b13 => first | k_is | kit_is | k_exc | decide +kernel | rfl | exact .inl rfl | exact .inr ⟨_, rfl⟩)
    (case b14 => first | k_is | kit_is | k_exc | decide +kernel | rfl | exact .inl rfl | exact .inr ⟨_, rfl⟩)
    (case b15 => first | k_is | kit_is | k_exc | decide +kernel | rfl | exact .inl rfl | exact .inr ⟨_, rfl⟩)
    (case b16 => first | k_is | kit_is | k_exc | decide +kernel | rfl | exact .inl rfl | exact .inr ⟨_, rfl⟩)
    (case b17 => first | k_is | kit_is | k_exc | decide +kernel | rfl | exact .inl rfl | exact .inr ⟨_, rfl⟩)
    (case b18 => first | k_is | kit_is | k_exc | decide +kernel | rfl | exact .inl rfl | exact .inr ⟨_, rfl⟩)
    (case b19 => first | k_is | kit_is | k_exc | decide +kernel | rfl | exact .inl rfl | exact .inr ⟨_, rfl⟩)
    (case ha0 => first | k_is | kit_is | k_exc | decide +kernel | rfl | exact .inl rfl | exact .inr ⟨_, rfl⟩)
    (case hl0 => first | k_is | kit_is | k_exc | decide +kernel | rfl | exact .inl rfl | exact .inr ⟨_, rfl⟩)
    (case hc0 => first | k_is | kit_is | k_exc | decide +kernel | rfl | exact .inl rfl | exact .inr ⟨_, rfl⟩)
    (case hk0 => first | k_is | kit_is | k_exc | decide +kernel | rfl | exact .inl rfl | exact .inr ⟨_, rfl⟩)
    (case ha1 => first | k_is | kit_is | k_exc | decide +kernel | rfl | exact .inl rfl | exact .inr ⟨_, rfl⟩)
    (case hl1 => first | k_is | kit_is | k_exc | decide +kernel | rfl | exact .inl rfl | exact .inr ⟨_, rfl⟩)
    (case hc1 => first | k_is | kit_is | k_exc | decide +kernel | rfl | exact .inl rfl | exact .inr ⟨_, rfl⟩)
    (case hk1 => first | k_is | kit_is | k_exc | decide +kernel | rfl | exact .inl rfl | exact .inr ⟨_, rfl⟩)
    (case ha2 => first | k_is | kit_is | k_exc | decide +kernel | rfl | exact .inl rfl | exact .inr ⟨_, rfl⟩)
    (case hl2 => first | k_is | kit_is | k_exc | decide +kernel | rfl | exact .inl rfl | exact .inr ⟨_, rfl⟩)
    (case hc2 => first | k_is | kit_is | k_exc | decide +kernel | rfl | exact .inl rfl | exact .inr ⟨_, rfl⟩)
    (case hk2 => first | k_is | kit_is | k_exc | decide +kernel | rfl | exact .inl rfl | exact .inr ⟨_, rfl⟩)
    (case ha3 => first | k_is | kit_is | k_exc | decide +kernel | rfl | exact .inl rfl | exact .inr ⟨_, rfl⟩)
    (case hl3 => first | k_is | kit_is | k_exc | decide +kernel | rfl | exact .inl rfl | exact .inr ⟨_, rfl⟩)
    (case hc3 => first | k_is | kit_is | k_exc | decide +kernel | rfl | exact .inl rfl | exact .inr ⟨_, rfl⟩)
    (case hk3 => first | k_is | kit_is | k_exc | decide +kernel | rfl | exact .inl rfl | exact .inr ⟨_, rfl⟩)
    (case ha4 => first | k_is | kit_is | k_exc | decide +kernel | rfl | exact .inl rfl | exact .inr ⟨_, rfl⟩)
    (case hl4 => first | k_is | kit_is | k_exc | decide +kernel | rfl | exact .inl rfl | exact .inr ⟨_, rfl⟩)
    (case hc4 => first | k_is | kit_is | k_exc | decide +kernel | rfl | exact .inl rfl | exact .inr ⟨_, rfl⟩)
    (case hk4 => first | k_is | kit_is | k_exc | decide +kernel | rfl | exact .inl rfl | exact .inr ⟨_, rfl⟩)
    (case ha5 => first | k_is | kit_is | k_exc | decide +kernel | rfl | exact .inl rfl | exact .inr ⟨_, rfl⟩)
    (case hl5 => first | k_is | kit_is | k_exc | decide +kernel | rfl | exact .inl rfl | exact .inr ⟨_, rfl⟩)
    (case hc5 => first | k_is | kit_is | k_exc | decide +kernel | rfl | exact .inl rfl | exact .inr ⟨_, rfl⟩)
    (case hk5 => first | k_is | kit_is | k_exc | decide +kernel | rfl | exact .inl rfl | exact .inr ⟨_, rfl⟩)
    (case ha6 => first | k_is | kit_is | k_exc | decide +kernel | rfl | exact .inl rfl | exact .inr ⟨_, rfl⟩)
    (case hl6 => first | k_is | kit_is | k_exc | decide +kernel | rfl | exact .inl rfl | exact .inr ⟨_, rfl⟩)
    (case hc6 => first | k_is | kit_is | k_exc | decide +kernel | rfl | exact .inl rfl | exact .inr ⟨_, rfl⟩)
    (case hk6 => first | k_is | kit_is | k_exc | decide +kernel | rfl | exact .inl rfl | exact .inr ⟨_, rfl⟩)
    (case ha7 => first | k_is | kit_is | k_exc | decide +kernel | rfl | exact .inl rfl | exact .inr ⟨_, rfl⟩)
    (case hl7 => first | k_is | kit_is | k_exc | decide +kernel | rfl | exact .inl rfl | exact .inr ⟨_, rfl⟩)
    (case hc7 => first | k_is | kit_is | k_exc | decide +kernel | rfl | exact .inl rfl | exact .inr ⟨_, rfl⟩)
    (case hk7 => first | k_is | kit_is | k_exc | decide +kernel | rfl | exact .inl rfl | exact .inr ⟨_, rfl⟩)
    (case ha8 => first | k_is | kit_is | k_exc | decide +kernel | rfl | exact .inl rfl | exact .inr ⟨_, rfl⟩)
    (case hl8 => first | k_is | kit_is | k_exc | decide +kernel | rfl | exact .inl rfl | exact .inr ⟨_, rfl⟩)
    (case hc8 => first | k_is | kit_is | k_exc | decide +kernel | rfl | exact .inl rfl | exact .inr ⟨_, rfl⟩)
    (case hk8 => first | k_is | kit_is | k_exc | decide +kernel | rfl | exact .inl rfl | exact .inr ⟨_, rfl⟩)
    (case ha9 => first | k_is | kit_is | k_exc | decide +kernel | rfl | exact .inl rfl | exact .inr ⟨_, rfl⟩)
    (case hl9 => first | k_is | kit_is | k_exc | decide +kernel | rfl | exact .inl rfl | exact .inr ⟨_, rfl⟩)
    (case hc9 => first | k_is | kit_is | k_exc | decide +kernel | rfl | exact .inl rfl | exact .inr ⟨_, rfl⟩)
    (case hk9 => first | k_is | kit_is | k_exc | decide +kernel | rfl | exact .inl rfl | exact .inr ⟨_, rfl⟩)
    (case ha10 => first | k_is | kit_is | k_exc | decide +kernel | rfl | exact .inl rfl | exact .inr ⟨_, rfl⟩)
    (case hl10 => first | k_is | kit_is | k_exc | decide +kernel | rfl | exact .inl rfl | exact .inr ⟨_, rfl⟩)
    (case hc10 => first | k_is | kit_is | k_exc | decide +kernel | rfl | exact .inl rfl | exact .inr ⟨_, rfl⟩)
    (case hk10 => first | k_is | kit_is | k_exc | decide +kernel | rfl | exact .inl rfl | exact .inr ⟨_, rfl⟩)
    (case ha11 => first | k_is | kit_is | k_exc | decide +kernel | rfl | exact .inl rfl | exact .inr ⟨_, rfl⟩)
    (case hl11 => first | k_is | kit_is | k_exc | decide +kernel | rfl | exact .inl rfl | exact .inr ⟨_, rfl⟩)
    (case hc11 => first | k_is | kit_is | k_exc | decide +kernel | rfl | exact .inl rfl | exact .inr ⟨_, rfl⟩)
    (case hk11 => first | k_is | kit_is | k_exc | decide +kernel | rfl | exact .inl rfl | exact .inr ⟨_, rfl⟩)
    (case ha12 => first | k_is | kit_is | k_exc | decide +kernel | rfl | exact .inl rfl | exact .inr ⟨_, rfl⟩)
    (case hl12 => first | k_is | kit_is | k_exc | decide +kernel | rfl | exact .inl rfl | exact .inr ⟨_, rfl⟩)
    (case hc12 => first | k_is | kit_is | k_exc | decide +kernel | rfl | exact .inl rfl | exact .inr ⟨_, rfl⟩)
    (case hk12 => first | k_is | kit_is | k_exc | decide +kernel | rfl | exact .inl rfl | exact .inr ⟨_, rfl⟩)
    (case ha13 => first | k_is | kit_is | k_exc | decide +kernel | rfl | exact .inl rfl | exact .inr ⟨_, rfl⟩)
    (case hl13 => first | k_is | kit_is | k_exc | decide +kernel | rfl | exact .inl rfl | exact .inr ⟨_, rfl⟩)
    (case hc13 => first | k_is | kit_is | k_exc | decide +kernel | rfl | exact .inl rfl | exact .inr ⟨_, rfl⟩)
    (case hk13 => first | k_is | kit_is | k_exc | decide +kernel | rfl | exact .inl rfl | exact .inr ⟨_, rfl⟩)
    (case ha14 => first | k_is | kit_is | k_exc | decide +kernel | rfl | exact .inl rfl | exact .inr ⟨_, rfl⟩)
    (case hl14 => first | k_is | kit_is | k_exc | decide +kernel | rfl | exact .inl rfl | exact .inr ⟨_, rfl⟩)
    (case hc14 => first | k_is | kit_is | k_exc | decide +kernel | rfl | exact .inl rfl | exact .inr ⟨_, rfl⟩)
    (case hk14 => first | k_is | kit_is | k_exc | decide +kernel | rfl | exact .inl rfl | exact .inr ⟨_, rfl⟩)
    (case ha15 => first | k_is | kit_is | k_exc | decide +kernel | rfl | exact .inl rfl | exact .inr ⟨_, rfl⟩)
    (case hl15 => first | k_is | kit_is | k_exc | decide +kernel | rfl | exact .inl rfl | exact .inr ⟨_, rfl⟩)
    (case hc15 => first | k_is | kit_is | k_exc | decide +kernel | rfl | exact .inl rfl | exact .inr ⟨_, rfl⟩)
    (case hk15 => first | k_is | kit_is | k_exc | decide +kernel | rfl | exact .inl rfl | exact .inr ⟨_, rfl⟩)
    (case ha16 => first | k_is | kit_is | k_exc | decide +kernel | rfl | exact .inl rfl | exact .inr ⟨_, rfl⟩)
    (case hl16 => first | k_is | kit_is | k_exc | decide +kernel | rfl | exact .inl rfl | exact .inr ⟨_, rfl⟩)
    (case hc16 => first | k_is | kit_is | k_exc | decide +kernel | rfl | exact .inl rfl | exact .inr ⟨_, rfl⟩)
    (case hk16 => first | k_is | kit_is | k_exc | decide +kernel | rfl | exact .inl rfl | exact .inr ⟨_, rfl⟩)
    (case ha17 => first | k_is | kit_is | k_exc | decide +kernel | rfl | exact .inl rfl | exact .inr ⟨_, rfl⟩)
    (case hl17 => first | k_is | kit_is | k_exc | decide +kernel | rfl | exact .inl rfl | exact .inr ⟨_, rfl⟩)
    (case hc17 => first | k_is | kit_is | k_exc | decide +kernel | rfl | exact .inl rfl | exact .inr ⟨_, rfl⟩)
    (case hk17 => first | k_is | kit_is | k_exc | decide +kernel | rfl | exact .inl rfl | exact .inr ⟨_, rfl⟩)
    (case ha18 => first | k_is | kit_is | k_exc | decide +kernel | rfl | exact .inl rfl | exact .inr ⟨_, rfl⟩)
    (case hl18 => first | k_is | kit_is | k_exc | decide +kernel | rfl | exact .inl rfl | exact .inr ⟨_, rfl⟩)
    (case hc18 => first | k_is | kit_is | k_exc | decide +kernel | rfl | exact .inl rfl | exact .inr ⟨_, rfl⟩)
    (case hk18 => first | k_is | kit_is | k_exc | decide +kernel | rfl | exact .inl rfl | exact .inr ⟨_, rfl⟩)
    (case ha19 => first | k_is | kit_is | k_exc | decide +kernel | rfl | exact .inl rfl | exact .inr ⟨_, rfl⟩)
    (case hl19 => first | k_is | kit_is | k_exc | decide +kernel | rfl | exact .inl rfl | exact .inr ⟨_, rfl⟩)
    (case hc19 => first | k_is | kit_is | k_exc | decide +kernel | rfl | exact .inl rfl | exact .inr ⟨_, rfl⟩)
    (case hk19 => first | k_is | kit_is | k_exc | decide +kernel | rfl | exact .inl rfl | exact .inr ⟨_, rfl⟩)
    (case ha20 => first | k_is | kit_is | k_exc | decide +kernel | rfl | exact .inl rfl | exact .inr ⟨_, rfl⟩)
    (case hl20 => first | k_is | kit_is | k_exc | decide +kernel | rfl | exact .inl rfl | exact .inr ⟨_, rfl⟩)
    (case hc20 => first | k_is | kit_is | k_exc | decide +kernel | rfl | exact .inl rfl | exact .inr ⟨_, rfl⟩)
    (case hk20 => first | k_is | kit_is | k_exc | decide +kernel | rfl | exact .inl rfl | exact .inr ⟨_, rfl⟩)
    (case ha21 => first | k_is | kit_is | k_exc | decide +kernel | rfl | exact .inl rfl | exact .inr ⟨_, rfl⟩)
    (case hl21 => first | k_is | kit_is | k_exc | decide +kernel | rfl | exact .inl rfl | exact .inr ⟨_, rfl⟩)
    (case hc21 => first | k_is | kit_is | k_exc | decide +kernel | rfl | exact .inl rfl | exact .inr ⟨_, rfl⟩)
    (case hk21 => first | k_is | kit_is | k_exc | decide +kernel | rfl | exact .inl rfl | exact .inr ⟨_, rfl⟩)
    (case ha22 => first | k_is | kit_is | k_exc | decide +kernel | rfl | exact .inl rfl | exact .inr ⟨_, rfl⟩)
    (case hl22 => first | k_is | kit_is | k_exc | decide +kernel | rfl | exact .inl rfl | exact .inr ⟨_, rfl⟩)
    (case hc22 => first | k_is | kit_is | k_exc | decide +kernel | rfl | exact .inl rfl | exact .inr ⟨_, rfl⟩)
    (case hk22 => first | k_is | kit_is | k_exc | decide +kernel | rfl | exact .inl rfl | exact .inr ⟨_, rfl⟩)
    (case ha23 => first | k_is | kit_is | k_exc | decide +kernel | rfl | exact .inl rfl | exact .inr ⟨_, rfl⟩)
    (case hl23 => first | k_is | kit_is | k_exc | decide +kernel | rfl | exact .inl rfl | exact .inr ⟨_, rfl⟩)
    (case hc23 => first | k_is | kit_is | k_exc | decide +kernel | rfl | exact .inl rfl | exact .inr ⟨_, rfl⟩)
    (case hk23 => first | k_is | kit_is | k_exc | decide +kernel | rfl | exact .inl rfl | exact .inr ⟨_, rfl⟩)
    (case ha24 => first | k_is | kit_is | k_exc | decide +kernel | rfl | exact .inl rfl | exact .inr ⟨_, rfl⟩)
    (case hl24 => first | k_is | kit_is | k_exc | decide +kernel | rfl | exact .inl rfl | exact .inr ⟨_, rfl⟩)
    (case hc24 => first | k_is | kit_is | k_exc | decide +kernel | rfl | exact .inl rfl | exact .inr ⟨_, rfl⟩)
    (case hk24 => first | k_is | kit_is | k_exc | decide +kernel | rfl | exact .inl rfl | exact .inr ⟨_, rfl⟩)
    (case ha25 => first | k_is | kit_is | k_exc | decide +kernel | rfl | exact .inl rfl | exact .inr ⟨_, rfl⟩)
    (case hl25 => first | k_is | kit_is | k_exc | decide +kernel | rfl | exact .inl rfl | exact .inr ⟨_, rfl⟩)
    (case hc25 => first | k_is | kit_is | k_exc | decide +kernel | rfl | exact .inl rfl | exact .inr ⟨_, rfl⟩)
    (case hk25 => first | k_is | kit_is | k_exc | decide +kernel | rfl | exact .inl rfl | exact .inr ⟨_, rfl⟩)
    (case ha26 => first | k_is | kit_is | k_exc | decide +kernel | rfl | exact .inl rfl | exact .inr ⟨_, rfl⟩)
    (case hl26 => first | k_is | kit_is | k_exc | decide +kernel | rfl | exact .inl rfl | exact .inr ⟨_, rfl⟩)
    (case hc26 => first | k_is | kit_is | k_exc | decide +kernel | rfl | exact .inl rfl | exact .inr ⟨_, rfl⟩)
    (case hk26 => first | k_is | kit_is | k_exc | decide +kernel | rfl | exact .inl rfl | exact .inr ⟨_, rfl⟩)
    (case ha27 => first | k_is | kit_is | k_exc | decide +kernel | rfl | exact .inl rfl | exact .inr ⟨_, rfl⟩)
    (case hl27 => first | k_is | kit_is | k_exc | decide +kernel | rfl | exact .inl rfl | exact .inr ⟨_, rfl⟩)
    (case hc27 => first | k_is | kit_is | k_exc | decide +kernel | rfl | exact .inl rfl | exact .inr ⟨_, rfl⟩)
    (case hk27 => first | k_is | kit_is | k_exc | decide +kernel | rfl | exact .inl rfl | exact .inr ⟨_, rfl⟩)
    (case ha28 => first | k_is | kit_is | k_exc | decide +kernel | rfl | exact .inl rfl | exact .inr ⟨_, rfl⟩)
    (case hl28 => first | k_is | kit_is | k_exc | decide +kernel | rfl | exact .inl rfl | exact .inr ⟨_, rfl⟩)
    (case hc28 => first | k_is | kit_is | k_exc | decide +kernel | rfl | exact .inl rfl | exact .inr ⟨_, rfl⟩)
    (case hk28 => first | k_is | kit_is | k_exc | decide +kernel | rfl | exact .inl rfl | exact .inr ⟨_, rfl⟩)
    (case ha29 => first | k_is | kit_is | k_exc | decide +kernel | rfl | exact .inl rfl | exact .inr ⟨_, rfl⟩)
    (case hl29 => first | k_is | kit_is | k_exc | decide +kernel | rfl | exact .inl rfl | exact .inr ⟨_, rfl⟩)
    (case hc29 => first | k_is | kit_is | k_exc | decide +kernel | rfl | exact .inl rfl | exact .inr ⟨_, rfl⟩)
    (case hk29 => first | k_is | kit_is | k_exc | decide +kernel | rfl | exact .inl rfl | exact .inr ⟨_, rfl⟩)
    (case co0 => first | k_is | kit_is | k_exc | decide +kernel | rfl | exact .inl rfl | exact .inr ⟨_, rfl⟩)
    (case s0aC => first | k_is | kit_is | k_exc | decide +kernel | rfl | exact .inl rfl | exact .inr ⟨_, rfl⟩)
    (case s0pg => first | k_is | kit_is | k_exc | decide +kernel | rfl | exact .inl rfl | exact .inr ⟨_, rfl⟩)
    (case s0hd => first | k_is | kit_is | k_exc | decide +kernel | rfl | exact .inl rfl | exact .inr ⟨_, rfl⟩)
    (case s0po => first | k_is | kit_is | k_exc | decide +kernel | rfl | exact .inl rfl | exact .inr ⟨_, rfl⟩)
    (case s0sa => first | k_is | kit_is | k_exc | decide +kernel | rfl | exact .inl rfl | exact .inr ⟨_, rfl⟩)
    (case s0mk => first | k_is | kit_is | k_exc | decide +kernel | rfl | exact .inl rfl | exact .inr ⟨_, rfl⟩)
    (case s0kp => first | k_is | kit_is | k_exc | decide +kernel | rfl | exact .inl rfl | exact .inr ⟨_, rfl⟩)
    (case s0na => first | k_is | kit_is | k_exc | decide +kernel | rfl | exact .inl rfl | exact .inr ⟨_, rfl⟩)
    (case s0rd => first | k_is | kit_is | k_exc | decide +kernel | rfl | exact .inl rfl | exact .inr ⟨_, rfl⟩)
    (case s0lt => first | k_is | kit_is | k_exc | decide +kernel | rfl | exact .inl rfl | exact .inr ⟨_, rfl⟩)
    (case m0a => first | k_is | kit_is | k_exc | decide +kernel | rfl | exact .inl rfl | exact .inr ⟨_, rfl⟩)
    (case m0l => first | k_is | kit_is | k_exc | decide +kernel | rfl | exact .inl rfl | exact .inr ⟨_, rfl⟩)
    (case m0c => first | k_is | kit_is | k_exc | decide +kernel | rfl | exact .inl rfl | exact .inr ⟨_, rfl⟩)
    (case m0k => first | k_is | kit_is | k_exc | decide +kernel | rfl | exact .inl rfl | exact .inr ⟨_, rfl⟩)
    (case m0i => first | k_is | kit_is | k_exc | decide +kernel | rfl | exact .inl rfl | exact .inr ⟨_, rfl⟩)
    (case m1a => first | k_is | kit_is | k_exc | decide +kernel | rfl | exact .inl rfl | exact .inr ⟨_, rfl⟩)
    (case m1l => first | k_is | kit_is | k_exc | decide +kernel | rfl | exact .inl rfl | exact .inr ⟨_, rfl⟩)
    (case m1c => first | k_is | kit_is | k_exc | decide +kernel | rfl | exact .inl rfl | exact .inr ⟨_, rfl⟩)
    (case m1k => first | k_is | kit_is | k_exc | decide +kernel | rfl | exact .inl rfl | exact .inr ⟨_, rfl⟩)
    (case m1i => first | k_is | kit_is | k_exc | decide +kernel | rfl | exact .inl rfl | exact .inr ⟨_, rfl⟩)
    (case m2a => first | k_is | kit_is | k_exc | decide +kernel | rfl | exact .inl rfl | exact .inr ⟨_, rfl⟩)
    (case m2l => first | k_is | kit_is | k_exc | decide +kernel | rfl | exact .inl rfl | exact .inr ⟨_, rfl⟩)
    (case m2c => first | k_is | kit_is | k_exc | decide +kernel | rfl | exact .inl rfl | exact .inr ⟨_, rfl⟩)
    (case m2k => first | k_is | kit_is | k_exc | decide +kernel | rfl | exact .inl rfl | exact .inr ⟨_, rfl⟩)
    (case m2i => first | k_is | kit_is | k_exc | decide +kernel | rfl | exact .inl rfl | exact .inr ⟨_, rfl⟩)
    (case m3a => first | k_is | kit_is | k_exc | decide +kernel | rfl | exact .inl rfl | exact .inr ⟨_, rfl⟩)
    (case m3l => first | k_is | kit_is | k_exc | decide +kernel | rfl | exact .inl rfl | exact .inr ⟨_, rfl⟩)
    (case m3c => first | k_is | kit_is | k_exc | decide +kernel | rfl | exact .inl rfl | exact .inr ⟨_, rfl⟩)
    (case m3k => first | k_is | kit_is | k_exc | decide +kernel | rfl | exact .inl rfl | exact .inr ⟨_, rfl⟩)
    (case m3i => first | k_is | kit_is | k_exc | decide +kernel | rfl | exact .inl rfl | exact .inr ⟨_, rfl⟩)
    (case m4a => first | k_is | kit_is | k_exc | decide +kernel | rfl | exact .inl rfl | exact .inr ⟨_, rfl⟩)
    (case m4l => first | k_is | kit_is | k_exc | decide +kernel | rfl | exact .inl rfl | exact .inr ⟨_, rfl⟩)
    (case m4c => first | k_is | kit_is | k_exc | decide +kernel | rfl | exact .inl rfl | exact .inr ⟨_, rfl⟩)
    (case m4k => first | k_is | kit_is | k_exc | decide +kernel | rfl | exact .inl rfl | exact .inr ⟨_, rfl⟩)
    (case m4i => first | k_is | kit_is | k_exc | decide +kernel | rfl | exact .inl rfl | exact .inr ⟨_, rfl⟩)
    (case m5a => first | k_is | kit_is | k_exc | decide +kernel | rfl | exact .inl rfl | exact .inr ⟨_, rfl⟩)
    (case m5l => first | k_is | kit_is | k_exc | decide +kernel | rfl | exact .inl rfl | exact .inr ⟨_, rfl⟩)
    (case m5c => first | k_is | kit_is | k_exc | decide +kernel | rfl | exact .inl rfl | exact .inr ⟨_, rfl⟩)
    (case m5k => first | k_is | kit_is | k_exc | decide +kernel | rfl | exact .inl rfl | exact .inr ⟨_, rfl⟩)
    (case m5i => first | k_is | kit_is | k_exc | decide +kernel | rfl | exact .inl rfl | exact .inr ⟨_, rfl⟩)
    (case m6a => first | k_is | kit_is | k_exc | decide +kernel | rfl | exact .inl rfl | exact .inr ⟨_, rfl⟩)
    (case m6l => first | k_is | kit_is | k_exc | decide +kernel | rfl | exact .inl rfl | exact .inr ⟨_, rfl⟩)
    (case m6c => first | k_is | kit_is | k_exc | decide +kernel | rfl | exact .inl rfl | exact .inr ⟨_, rfl⟩)
    (case m6k => first | k_is | kit_is | k_exc | decide +kernel | rfl | exact .inl rfl | exact .inr ⟨_, rfl⟩)
    (case m6i => first | k_is | kit_is | k_exc | decide +kernel | rfl | exact .inl rfl | exact .inr ⟨_, rfl⟩)
    (case m7a => first | k_is | kit_is | k_exc | decide +kernel | rfl | exact .inl rfl | exact .inr ⟨_, rfl⟩)
    (case m7l => first | k_is | kit_is | k_exc | decide +kernel | rfl | exact .inl rfl | exact .inr ⟨_, rfl⟩)
    (case m7c => first | k_is | kit_is | k_exc | decide +kernel | rfl | exact .inl rfl | exact .inr ⟨_, rfl⟩)
    (case m7k => first | k_is | kit_is | k_exc | decide +kernel | rfl | exact .inl rfl | exact .inr ⟨_, rfl⟩)
    (case m7i => first | k_is | kit_is | k_exc | decide +kernel | rfl | exact .inl rfl | exact .inr ⟨_, rfl⟩)
    (case m8a => first | k_is | kit_is | k_exc | decide +kernel | rfl | exact .inl rfl | exact .inr ⟨_, rfl⟩)
    (case m8l => first | k_is | kit_is | k_exc | decide +kernel | rfl | exact .inl rfl | exact .inr ⟨_, rfl⟩)
    (case m8c => first | k_is | kit_is | k_exc | decide +kernel | rfl | exact .inl rfl | exact .inr ⟨_, rfl⟩)
    (case m8k => first | k_is | kit_is | k_exc | decide +kernel | rfl | exact .inl rfl | exact .inr ⟨_, rfl⟩)
    (case m8i => first | k_is | kit_is | k_exc | decide +kernel | rfl | exact .inl rfl | exact .inr ⟨_, rfl⟩)
    (case m9a => first | k_is | kit_is | k_exc | decide +kernel | rfl | exact .inl rfl | exact .inr ⟨_, rfl⟩)
    (case m9l => first | k_is | kit_is | k_exc | decide +kernel | rfl | exact .inl rfl | exact .inr ⟨_, rfl⟩)
    (case m9c => first | k_is | kit_is | k_exc | decide +kernel | rfl | exact .inl rfl | exact .inr ⟨_, rfl⟩)
    (case m9k => first | k_is | kit_is | k_exc | decide +kernel | rfl | exact .inl rfl | exact .inr ⟨_, rfl⟩)
    (case m9i => first | k_is | kit_is | k_exc | decide +kernel | rfl | exact .inl rfl | exact .inr ⟨_, rfl⟩)
    (case m10a => first | k_is | kit_is | k_exc | decide +kernel | rfl | exact .inl rfl | exact .inr ⟨_, rfl⟩)
    (case m10l => first | k_is | kit_is | k_exc | decide +kernel | rfl | exact .inl rfl | exact .inr ⟨_, rfl⟩)
    (case m10c => first | k_is | kit_is | k_exc | decide +kernel | rfl | exact .inl rfl | exact .inr ⟨_, rfl⟩)
    (case m10k => first | k_is | kit_is | k_exc | decide +kernel | rfl | exact .inl rfl | exact .inr ⟨_, rfl⟩)
    (case m10i => first | k_is | kit_is | k_exc | decide +kernel | rfl | exact .inl rfl | exact .inr ⟨_, rfl⟩)
    (case t0sf => first | k_is | kit_is | k_exc | decide +kernel | rfl | exact .inl rfl | exact .inr ⟨_, rfl⟩)
    (case t0ra => first | k_is | kit_is | k_exc | decide +kernel | rfl | exact .inl rfl | exact .inr ⟨_, rfl⟩)
    (case t0qa => first | k_is | kit_is | k_exc | decide +kernel | rfl | exact .inl rfl | exact .inr ⟨_, rfl⟩)
    (case t0rb => first | k_is | kit_is | k_exc | decide +kernel | rfl | exact .inl rfl | exact .inr ⟨_, rfl⟩)
    (case t0qb => first | k_is | kit_is | k_exc | decide +kernel | rfl | exact .inl rfl | exact .inr ⟨_, rfl⟩)
    (case t0rc => first | k_is | kit_is | k_exc | decide +kernel | rfl | exact .inl rfl | exact .inr ⟨_, rfl⟩)
    (case t0qc => first | k_is | kit_is | k_exc | decide +kernel | rfl | exact .inl rfl | exact .inr ⟨_, rfl⟩)
    (case i0ha => first | k_is | kit_is | k_exc | decide +kernel | rfl | exact .inl rfl | exact .inr ⟨_, rfl⟩)
    (case i0hn => first | k_is | kit_is | k_exc | decide +kernel | rfl | exact .inl rfl | exact .inr ⟨_, rfl⟩)
    (case i0ht => first | k_is | kit_is | k_exc | decide +kernel | rfl | exact .inl rfl | exact .inr ⟨_, rfl⟩)
    (case i0hm => first | k_is | kit_is | k_exc | decide +kernel | rfl | exact .inl rfl | exact .inr ⟨_, rfl⟩)
    (case i0kc => first | k_is | kit_is | k_exc | decide +kernel | rfl | exact .inl rfl | exact .inr ⟨_, rfl⟩)
    (case q0rd => first | k_is | kit_is | k_exc | decide +kernel | rfl | exact .inl rfl | exact .inr ⟨_, rfl⟩)
    (case q0at => first | k_is | kit_is | k_exc | decide +kernel | rfl | exact .inl rfl | exact .inr ⟨_, rfl⟩)
    (case q0rc => first | k_is | kit_is | k_exc | decide +kernel | rfl | exact .inl rfl | exact .inr ⟨_, rfl⟩)
    (case q0fi => first | k_is | kit_is | k_exc | decide +kernel | rfl | exact .inl rfl | exact .inr ⟨_, rfl⟩)
    (case q0l => first | k_is | kit_is | k_exc | decide +kernel | rfl | exact .inl rfl | exact .inr ⟨_, rfl⟩)
    (case q0c => first | k_is | kit_is | k_exc | decide +kernel | rfl | exact .inl rfl | exact .inr ⟨_, rfl⟩)
    (case q0k => first | k_is | kit_is | k_exc | decide +kernel | rfl | exact .inl rfl | exact .inr ⟨_, rfl⟩)
    (case q1rd => first | k_is | kit_is | k_exc | decide +kernel | rfl | exact .inl rfl | exact .inr ⟨_, rfl⟩)
    (case q1at => first | k_is | kit_is | k_exc | decide +kernel | rfl | exact .inl rfl | exact .inr ⟨_, rfl⟩)
    (case q1rc => first | k_is | kit_is | k_exc | decide +kernel | rfl | exact .inl rfl | exact .inr ⟨_, rfl⟩)
    (case q1fi => first | k_is | kit_is | k_exc | decide +kernel | rfl | exact .inl rfl | exact .inr ⟨_, rfl⟩)
    (case q1l => first | k_is | kit_is | k_exc | decide +kernel | rfl | exact .inl rfl | exact .inr ⟨_, rfl⟩)
    (case q1c => first | k_is | kit_is | k_exc | decide +kernel | rfl | exact .inl rfl | exact .inr ⟨_, rfl⟩)
    (case q1k => first | k_is | kit_is | k_exc | decide +kernel | rfl | exact .inl rfl | exact .inr ⟨_, rfl⟩)
    (case q2rd => first | k_is | kit_is | k_exc | decide +kernel | rfl | exact .inl rfl | exact .inr ⟨_, rfl⟩)
    (case q2at => first | k_is | kit_is | k_exc | decide +kernel | rfl | exact .inl rfl | exact .inr ⟨_, rfl⟩)
    (case q2rc => first | k_is | kit_is | k_exc | decide +kernel | rfl | exact .inl rfl | exact .inr ⟨_, rfl⟩)
    (case q2fi => first | k_is | kit_is | k_exc | decide +kernel | rfl | exact .inl rfl | exact .inr ⟨_, rfl⟩)
    (case q2l => first | k_is | kit_is | k_exc | decide +kernel | rfl | exact .inl rfl | exact .inr ⟨_, rfl⟩)
    (case q2c => first | k_is | kit_is | k_exc | decide +kernel | rfl | exact .inl rfl | exact .inr ⟨_, rfl⟩)
    (case q2k => first | k_is | kit_is | k_exc | decide +kernel | rfl | exact .inl rfl | exact .inr ⟨_, rfl⟩)
    (case q3rd => first | k_is | kit_is | k_exc | decide +kernel | rfl | exact .inl rfl | exact .inr ⟨_, rfl⟩)
    (case q3at => first | k_is | kit_is | k_exc | decide +kernel | rfl | exact .inl rfl | exact .inr ⟨_, rfl⟩)
    (case q3rc => first | k_is | kit_is | k_exc | decide +kernel | rfl | exact .inl rfl | exact .inr ⟨_, rfl⟩)
    (case q3fi => first | k_is | kit_is | k_exc | decide +kernel | rfl | exact .inl rfl | exact .inr ⟨_, rfl⟩)
    (case q3l => first | k_is | kit_is | k_exc | decide +kernel | rfl | exact .inl rfl | exact .inr ⟨_, rfl⟩)
    (case q3lt => first | k_is | kit_is | k_exc | decide +kernel | rfl | exact .inl rfl | exact .inr ⟨_, rfl⟩)
    (case q3c => first | k_is | kit_is | k_exc | decide +kernel | rfl | exact .inl rfl | exact .inr ⟨_, rfl⟩)
    (case q3k => first | k_is | kit_is | k_exc | decide +kernel | rfl | exact .inl rfl | exact .inr ⟨_, rfl⟩)
    (case q4rd => first | k_is | kit_is | k_exc | decide +kernel | rfl | exact .inl rfl | exact .inr ⟨_, rfl⟩)
    (case q4at => first | k_is | kit_is | k_exc | decide +kernel | rfl | exact .inl rfl | exact .inr ⟨_, rfl⟩)
    (case q4rc => first | k_is | kit_is | k_exc | decide +kernel | rfl | exact .inl rfl | exact .inr ⟨_, rfl⟩)
    (case q4fi => first | k_is | kit_is | k_exc | decide +kernel | rfl | exact .inl rfl | exact .inr ⟨_, rfl⟩)
    (case q4l => first | k_is | kit_is | k_exc | decide +kernel | rfl | exact .inl rfl | exact .inr ⟨_, rfl⟩)
    (case q4c => first | k_is | kit_is | k_exc | decide +kernel | rfl | exact .inl rfl | exact .inr ⟨_, rfl⟩)
    (case q4k => first | k_is | kit_is | k_exc | decide +kernel | rfl | exact .inl rfl | exact .inr ⟨_, rfl⟩)
    (case q5rd => first | k_is | kit_is | k_exc | decide +kernel | rfl | exact .inl rfl | exact .inr ⟨_, rfl⟩)
    (case q5at => first | k_is | kit_is | k_exc | decide +kernel | rfl | exact .inl rfl | exact .inr ⟨_, rfl⟩)
    (case q5rc => first | k_is | kit_is | k_exc | decide +kernel | rfl | exact .inl rfl | exact .inr ⟨_, rfl⟩)
    (case q5fi => first | k_is | kit_is | k_exc | decide +kernel | rfl | exact .inl rfl | exact .inr ⟨_, rfl⟩)
    (case q5l => first | k_is | kit_is | k_exc | decide +kernel | rfl | exact .inl rfl | exact .inr ⟨_, rfl⟩)
    (case q5c => first | k_is | kit_is | k_exc | decide +kernel | rfl | exact .inl rfl | exact .inr ⟨_, rfl⟩)
    (case q5k => first | k_is | kit_is | k_exc | decide +kernel | rfl | exact .inl rfl | exact .inr ⟨_, rfl⟩)
#print axioms PySem.Challenge.cw_textorlist_k17_shapes_changed_in_place_holds
