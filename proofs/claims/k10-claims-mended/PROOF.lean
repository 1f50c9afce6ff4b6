import PyProof.Rows.All
import Wide.All
import OpenK.AllK
import Wide.FinOn
import HandS.ForMost
import HandS.TupAny
import HandS.Conv
import HandS.More
import HandS.IsInst
import HandS.Dict
import HandS.DictComp
import HandS.NoneIn
import HandS.Wide
import HandS.Walk
import HandS.Codes
import PyProof.ReprRoads
import HandS.Set
import HandS.SetFor
import HandS.Strs
import PyProof.Rows.SortShellAny
import PyProof.AutoSeq1
import HandS.ForExc
import HandS.TryMany
import HandS.ExcInit
import HandS.ExcField
import HandS.ExcIs
import HandS.ClsMeth
import HandS.Ends
import HandS.Style
import HandS.WordsDict
import HandS.List
import HandS.SetKeys
import HandS.Defaults
import HandS.Flt
import HandS.RevRange
import HandS.Flow
import PySem.Challenge.RW_heldanswers_k10_claims_mended_by_form
set_option Elab.async false
set_option linter.all false
set_option maxRecDepth 100000
set_option maxHeartbeats 32000000
/-! Calls where no repr is under way: the same as FnOk, with one more fact of the surroundings. -/
namespace HA
open PySem PySem.Spec PyProof.Rows L2
structure GnOk (P : Program) (w : World) (K : PySem.W.Frag) (mg : Str → Option Value) (base : Heap)
    (CX : CXT) (k : Nat) (f : Addr) (fd : FuncData) (ps : List Str) (sp : Sp) : Prop where
  size : ∀ vs H Q E, sp vs H Q E → vs.length = ps.length
  does : ∀ (A : Around) (outer : List Env) (s : Shared) (H : Hp) (args : Args) (us : List Value)
    (vs : List V) (Q : VK) (E : XK), A.guards = some [] → Room k A → Env0 P w K mg base A outer s H →
    BindsTo s fd args (ps.zip us) → Vals vs us → sp vs H Q E →
    codeAny (model P w) A (.call (.ref f) args) (CR CX outer P w H s Q E) s
section
variable {P : Program} {w : World} {K : PySem.W.Frag} {mg : Str → Option Value} {base : Heap}
theorem GnOk.up {CX : CXT} {j k : Nat} {f : Addr} {fd : FuncData} {ps : List Str} {sp : Sp}
    (F : GnOk P w K mg base CX j f fd ps sp) (h : j ≤ k) : GnOk P w K mg base CX k f fd ps sp :=
  ⟨F.size, fun A outer s H args us vs Q E hg hr => F.does A outer s H args us vs Q E hg (hr.mono h)⟩
theorem GnOk.of {CX : CXT} {k : Nat} {f : Addr} {fd : FuncData} {ps : List Str} {sp : Sp}
    (F : FnOk P w K mg base CX k f fd ps sp) : GnOk P w K mg base CX k f fd ps sp :=
  ⟨F.len, fun A outer s H args us vs Q E _ hr => F.run A outer s H args us vs Q E hr⟩
theorem gn_ok {x qual : Str} {st : Stmt} {f : Addr} {fd : FuncData} {N ps : List Str} {k : Nat} {sp : Sp}
    (F : Fun K x qual st f fd) (S : FnScope N ps (defScope st))
    (size : ∀ vs H Q E, sp vs H Q E → vs.length = ps.length)
    (body : ∀ (cdv : Value) (A : Around) (outer : List Env) (s : Shared) (H : Hp) (vs : List V) (Q : VK) (E : XK),
      A.guards = some [] → Room k (A.deeper (envOfC qual (defScope st) s.heap.objs.size f cdv)) → sp vs H Q E →
      ∃ t, PSs (cxOf CX0 P w K mg base N qual (defScope st) f cdv A outer s H E).nox (defBody st) t ∧
        t { nx := fun _ H' => Q .non H', rt := Q } (start N vs) H) :
    GnOk P w K mg base CX0 (k + 1) f fd ps sp := by
  obtain ⟨oc, od, kV, doc, pm, an, cdv, ct, osl, rfl, lk, hcd⟩ := F.ex
  constructor
  · exact size
  intro A outer s H args us vs Q E hg hr e0 hb r hsp
  have hlen := size _ _ _ _ hsp
  have inn : ∀ b o, base.get? b = some o → s.heap.get? b = some o := fun b o e => (e0.bs b o e).1
  have KX : K.In s.heap := e0.mod.kin.keeps inn
  have lim : s.heap.NoLimit := e0.mod.nolimit.keeps inn
  have cellOr : ∀ y ∈ ps.zip us, (defScope st).names.lookup y.1 = some .local ∨ ((defScope st).names.lookup y.1 = some .cell ∧
      ((cellsFrom (s.heap.objs.size + 1) (defScope st).names []).lookup y.1).isSome = true) := by
    rintro ⟨n, v⟩ hy
    have hn := (List.of_mem_zip hy).1
    cases S.par n hn with
    | inl q => exact Or.inl q
    | inr q => exact Or.inr (And.intro q (PySem.W.cellsFrom_some _ _ _ (Or.inl q)))
  refine codeAny_call_function hr.depth (KX _ _ lk) rfl S.co S.gen rfl (PySem.W.codeRec_of KX hcd) (hb _ _ _ _ ?_)
  refine wpAny_newFunctionEnv_cells S.kind cellOr fun env he s1 x => ?_
  cases he
  refine And.intro (lim.keeps x.toInCall.keep) (codeAny_func ?_)
  obtain ⟨t, ht, hq⟩ := body cdv A outer s H vs Q E hg (hr.deeper _) hsp
  have I := inv_start (CX := CX0) (E := E) S hr.hd e0 hlen r x
  refine wpAny_mono (ht.nox.run [] s1 (start N vs) H _ I hq) (fun fl s' hs => ?_) fun e s' hs => hs
  cases fl with
  | ret u =>
    obtain ⟨v, σ', H', J, rv, q⟩ := hs
    exact ⟨v, H', J.os, J.bare, J.base, J.hok, rv, q⟩
  | next =>
    obtain ⟨σ', H', J, q⟩ := hs
    exact ⟨V.non, H', J.os, J.bare, J.base, J.hok, rfl, q⟩
  | brk =>
    obtain ⟨_, _, _, q⟩ := hs
    exact q.elim
  | cont =>
    obtain ⟨_, _, _, q⟩ := hs
    exact q.elim
end
section
variable {X : Cx} {CX : CXT} {k : Nat} {f : Addr} {fd : FuncData} {ps : List Str} {sp : Sp} {dvs : List V}
  {ds : List Value} {E : XK} {x : Str} {p pos : Pos} {e : Expr} {es : List Expr} {t : TA}
theorem pe_callG (F : GnOk X.prog X.w X.K X.mg X.base CX k f fd ps sp) (hG : X.A.guards = some []) (hr : Room k X.A)
    (hg : Gl X x) (hm : X.mg x = some (.ref f)) (hk : PySem.W.keepIn X.K (.ref f) = true)
    (hb : Binds X.K fd ps ds) (hd : Vals dvs ds) (hx : Passes CX X E) (ha : PA X (e :: es) t)
    (hdb : (x == ("__debug__" : Str)) = false := by decide)
    (he : starEach (e :: es) X.env = (false, eval e X.env) :: starEach es X.env := by rfl)
    (hpl : (backTo pos (starEach es X.env)).any (·.1) = false := by rfl) :
    PE X (.Call (.Name x p) (e :: es) [] pos) (tCall sp dvs E t) := by
  constructor
  intro pins s σ H Q I h
  refine wpAny_Call_Name_kw (ld_glob I hg hm ?_ hdb)
  refine PySem.W.callWith_K (h₀ := X.base) I.ok.mod.kin hk ?_ he hpl
  refine thn (ha.run pos pins s σ H _ I h) ?_
  rintro us s1 ⟨vs, H1, I1, r, q⟩
  refine And.intro I1.kIn ?_
  have r2 : Vals (vs ++ dvs) (us ++ ds) := r.append hd
  have hl : (us ++ ds).length = ps.length := r2.length.symm.trans (F.size _ _ _ _ q)
  refine wpAny_call (codeAny_mono (F.does X.A X.stack s1 H1 ⟨us, []⟩ (us ++ ds) (vs ++ dvs) Q E hG hr I1.env0 (hb s1 us I1.kIn hl) r2 q) ?_)
  intro r' s' hq
  match r', hq with
  | .error e', hq => exact hx pins σ H1 s1 e' s' I1 hq
  | .ok (.ret u), hq => exact I1.after hq
  | .ok .next, hq => exact hq.elim
  | .ok .brk, hq => exact hq.elim
  | .ok .cont, hq => exact hq.elim
/-- repr of an int, a text, a list or tuple of such, where no repr is under way -/
theorem call_reprD (hG : X.A.guards = some []) (hu : X.A.units + 200 < cLine) :
    CallR X (.builtin "repr") (fun xs H Q => ∃ (a : Addr) (d : PyData), xs = [.ref a] ∧ Dp X.K H (.ref a) d ∧
      d.showable = true ∧ d.hasDict = false ∧ d.depth ≤ 100 ∧ d.shown.length ≤ sizeLine ∧ Q (.str d.shown) H) := by
  intro pins s σ H xs us Q I r h
  obtain ⟨a, d, rfl, hd, hs, hn, hdp, hz, q⟩ := h
  cases r with
  | cons r1 r2 =>
    cases r2
    obtain ⟨as, hr⟩ := Dp.reads I d (.ref a) _ hd r1
    cases r1
    refine repr_of_reads' hr hs (fun z => absurd z (by rw [hn]; decide)) hG (by omega) (fun _ _ z => z) ?_ hz
    intro h' u tk hk
    exact ⟨.str d.shown, H, I.kept hk, ⟨u, rfl⟩, q⟩
end
end HA

/-! Heaps in which all but some lists stay; data of tuples; words for readings. -/
namespace HA
open PySem PySem.Spec PyProof.Rows L2
/-- all that was tracked stays, but at the addresses S -/
def Kp (S : List Addr) (H H' : Hp) : Prop := ∀ b o, b ∉ S → H b = some o → H' b = some o
section
variable {S S' : List Addr} {H H1 H2 : Hp}
theorem Kp.refl (H : Hp) : Kp S H H := fun _ _ _ h => h
theorem Kp.trans (a : Kp S H H1) (b : Kp S H1 H2) : Kp S H H2 := fun c o n h => b c o n (a c o n h)
theorem Kp.mono (a : Kp S H H1) (s : ∀ x ∈ S, x ∈ S') : Kp S' H H1 := fun c o n h => a c o (fun z => n (s c z)) h
theorem Kp.of (a : Same H H1) : Kp S H H1 := fun c o _ h => a c o h
theorem Kp.same (a : Kp [] H H1) : Same H H1 := fun c o h => a c o (by simp) h
theorem Kp.new {p : Addr} {o : HO} (h : H p = none) : Kp S H (upd H p o) := fun b u _ e => by
  rw [upd_ne (ne_of_none e h)]; exact e
theorem _root_.L2.Same.new {p : Addr} {o : HO} (h : H p = none) : Same H (upd H p o) := fun b u e => by
  rw [upd_ne (ne_of_none e h)]; exact e
theorem Kp.wr {p : Addr} {o : HO} (h : p ∈ S) : Kp S H (upd H p o) := fun b u n e => by
  rw [upd_ne (fun z : b = p => n (by rw [z]; exact h))]; exact e
/-- a new object may change -/
theorem Kp.mut {p : Addr} {o : HO} (e : Kp S H H1) (h : H p = none) : Kp S H (upd H1 p o) := fun b u n q => by
  rw [upd_ne (ne_of_none q h)]; exact e b u n q
theorem _root_.L2.Same.mut {p : Addr} {o : HO} (e : Same H H1) (h : H p = none) : Same H (upd H1 p o) := fun b u q => by
  rw [upd_ne (ne_of_none q h)]; exact e b u q
theorem Kp.free (e : Kp S H H1) {l : Addr} (n : l ∉ S) (h : H1 l = none) : H l = none := by
  cases q : H l with
  | none => rfl
  | some o => rw [e l o n q] at h; cases h
theorem Kp.mem (e : Kp S H H1) (hs : ∀ b ∈ S, ∃ o, H b = some o ∧ ∃ o', H1 b = some o') {l : Addr} (h : H1 l = none) : H l = none := by
  by_cases n : l ∈ S
  · obtain ⟨_, _, o', h'⟩ := hs l n
    rw [h'] at h; cases h
  · exact e.free n h
/-- what stands at the addresses S are lists -/
def Lsts (S : List Addr) (H : Hp) : Prop := ∀ b ∈ S, ∀ o, H b = some o → ∃ xs, o = .lst xs
theorem Lsts.nil : Lsts [] H := fun b h => by cases h
theorem Lsts.cons {p : Addr} {xs : List V} (h : H p = some (.lst xs)) (r : Lsts S H) : Lsts (p :: S) H := fun b m o e => by
  cases m with
  | head => rw [h] at e; cases e; exact ⟨xs, rfl⟩
  | tail _ m => exact r b m o e
theorem Lsts.free {p : Addr} (h : H p = none) (r : Lsts S H) : Lsts (p :: S) H := fun b m o e => by
  cases m with
  | head => rw [h] at e; cases e
  | tail _ m => exact r b m o e
theorem Lsts.one {p : Addr} {xs : List V} (h : H p = some (.lst xs)) : Lsts [p] H := Lsts.cons h Lsts.nil
theorem _root_.L2.Same.kps (a : Same H H1) (k : Kp S H1 H2) (n : ∀ x ∈ S, H x = none) : Same H H2 := fun b o e =>
  k b o (fun m => by rw [n b m] at e; cases e) (a b o e)
theorem Kp.seqT {K : PySem.W.Frag} {a : Addr} {xs : List V} (e : Kp S H H1) (l : Lsts S H) (h : SqT K H a xs) : SqT K H1 a xs := by
  rcases h with (h | ⟨o, h⟩) | h
  · refine .inl (.inl (e a _ (fun m => ?_) h))
    obtain ⟨ys, hy⟩ := l a m _ h
    cases hy
  · refine .inl (.inr ⟨o, e a _ (fun m => ?_) h⟩)
    obtain ⟨ys, hy⟩ := l a m _ h
    cases hy
  · exact .inr h
theorem Kp.seqL {K : PySem.W.Frag} {a : Addr} {xs : List V} (e : Kp S H H1) (n : a ∉ S) (h : SqL K H a xs) : SqL K H1 a xs := by
  rcases h with (h | ⟨o, h⟩) | h
  · exact .inl (.inl (e a _ n h))
  · exact .inl (.inr ⟨o, e a _ n h⟩)
  · exact .inr h
end
theorem _root_.L2.Same.seqT {K : PySem.W.Frag} {H H' : Hp} {a : Addr} {xs : List V} (e : Same H H') (h : SqT K H a xs) : SqT K H' a xs :=
  (Kp.of (S := []) e).seqT Lsts.nil h
/-! data without lists -/
mutual
def tu : PyData → Bool
  | .none | .bool _ | .int _ | .str _ => true
  | .tuple xs => tuAll xs
  | .list _ | .dict _ => false
def tuAll : List PyData → Bool
  | [] => true
  | x :: xs => tu x && tuAll xs
end
end HA
namespace L2
open PySem PySem.Spec PyProof.Rows HA
section
variable {K : PySem.W.Frag} {S : List Addr} {H H1 : Hp}
mutual
theorem Dp.kp (e : Kp S H H1) (l : Lsts S H) : ∀ (d : PyData) (v : V), tu d = true → Dp K H v d → Dp K H1 v d
  | .none, _, _, h => by cases h; exact .non
  | .bool b, _, _, h => by cases h; exact .bl b
  | .int i, _, _, h => by cases h; exact .int i
  | .str x, _, _, h => by cases h; exact .str x
  | .tuple ds, _, t, h => by
    cases h with
    | tup hs ha => exact .tup (e.seqT l hs) (Dp.kpAll e l ds _ t ha)
  | .list _, _, t, _ => by cases t
  | .dict _, _, _, h => by cases h
theorem Dp.kpAll (e : Kp S H H1) (l : Lsts S H) : ∀ (ds : List PyData) (vs : List V), tuAll ds = true → DpAll K H vs ds → DpAll K H1 vs ds
  | [], _, _, h => by cases h; exact .nil
  | d :: ds, _, t, h => by
    have t' : (tu d && tuAll ds) = true := t
    rw [Bool.and_eq_true] at t'
    cases h with
    | cons h1 h2 => exact .cons (Dp.kp e l d _ t'.1 h1) (Dp.kpAll e l ds _ t'.2 h2)
end
mutual
theorem Dp.sm (e : Same H H1) : ∀ (d : PyData) (v : V), Dp K H v d → Dp K H1 v d
  | .none, _, h => by cases h; exact .non
  | .bool b, _, h => by cases h; exact .bl b
  | .int i, _, h => by cases h; exact .int i
  | .str x, _, h => by cases h; exact .str x
  | .tuple ds, _, h => by
    cases h with
    | tup hs ha => exact .tup (Same.seqT e hs) (Dp.smAll e ds _ ha)
  | .list ds, _, h => by
    cases h with
    | lst hs ha => exact .lst (Same.seq e hs) (Dp.smAll e ds _ ha)
  | .dict _, _, h => by cases h
theorem Dp.smAll (e : Same H H1) : ∀ (ds : List PyData) (vs : List V), DpAll K H vs ds → DpAll K H1 vs ds
  | [], _, h => by cases h; exact .nil
  | d :: ds, _, h => by
    cases h with
    | cons h1 h2 => exact .cons (Dp.sm e d _ h1) (Dp.smAll e ds _ h2)
end
theorem DpAll.len : ∀ {vs : List V} {ds : List PyData}, DpAll K H vs ds → vs.length = ds.length
  | _, _, .nil => rfl
  | _, _, .cons _ h => by rw [List.length_cons, List.length_cons, DpAll.len h]
theorem DpAll.app : ∀ {vs ws : List V} {ds es : List PyData}, DpAll K H vs ds → DpAll K H ws es → DpAll K H (vs ++ ws) (ds ++ es)
  | _, _, _, _, .nil, h => h
  | _, _, _, _, .cons a b, h => .cons a (DpAll.app b h)
theorem DpAll.take : ∀ (n : Nat) {vs : List V} {ds : List PyData}, DpAll K H vs ds → DpAll K H (vs.take n) (ds.take n)
  | 0, _, _, _ => .nil
  | _ + 1, _, _, .nil => .nil
  | n + 1, _, _, .cons a b => .cons a (DpAll.take n b)
theorem DpAll.drop : ∀ (n : Nat) {vs : List V} {ds : List PyData}, DpAll K H vs ds → DpAll K H (vs.drop n) (ds.drop n)
  | 0, _, _, h => h
  | _ + 1, _, _, .nil => .nil
  | n + 1, _, _, .cons _ b => DpAll.drop n b
theorem DpAll.at : ∀ {i : Nat} {vs : List V} {ds : List PyData} {d : PyData}, DpAll K H vs ds → ds[i]? = some d → ∃ v, vs[i]? = some v ∧ Dp K H v d
  | _, _, _, _, .nil, e => by cases e
  | 0, _, _, _, .cons a _, e => by cases e; exact ⟨_, rfl, a⟩
  | i + 1, _, _, _, .cons _ b, e => DpAll.at (i := i) b e
theorem DpAll.atV : ∀ {i : Nat} {vs : List V} {ds : List PyData} {v : V}, DpAll K H vs ds → vs[i]? = some v → ∃ d, ds[i]? = some d ∧ Dp K H v d
  | _, _, _, _, .nil, e => by cases e
  | 0, _, _, _, .cons a _, e => by cases e; exact ⟨_, rfl, a⟩
  | i + 1, _, _, _, .cons _ b, e => DpAll.atV (i := i) b e
theorem Dp.str_inv {v : V} {x : Str} (h : Dp K H v (.str x)) : v = .str x := by cases h; rfl
theorem Dp.int_inv {v : V} {i : Int} (h : Dp K H v (.int i)) : v = .int i := by cases h; rfl
theorem Dp.tup_inv {v : V} {ds : List PyData} (h : Dp K H v (.tuple ds)) : ∃ a xs, v = .ref a ∧ SqT K H a xs ∧ DpAll K H xs ds := by
  cases h with
  | tup hs ha => exact ⟨_, _, rfl, hs, ha⟩
end
end L2
namespace HA
open PySem PySem.Spec PyProof.Rows L2
/-- a reference: a level or a name -/
def kD : Key → PyData
  | .inl i => .int i
  | .inr x => .str x
theorem _root_.L2.Dp.key {K : PySem.W.Frag} {H : Hp} (r : Key) : Dp K H (kV r) (kD r) := by
  cases r with
  | inl i => exact .int i
  | inr x => exact .str x
theorem _root_.L2.Dp.key_inv {K : PySem.W.Frag} {H : Hp} {v : V} {r : Key} (h : Dp K H v (kD r)) : v = kV r := by
  cases r with
  | inl i => cases h; rfl
  | inr x => cases h; rfl
theorem tu_key (r : Key) : tu (kD r) = true := by cases r <;> rfl
theorem flat_key (r : Key) : flatV (kV r) = true := by cases r <;> rfl
theorem flat_keys (l : List Key) : (l.map kV).all flatV = true := by
  rw [List.all_eq_true]
  intro x h
  obtain ⟨r, _, rfl⟩ := List.mem_map.mp h
  exact flat_key r
theorem eqV_key (r q : Key) : eqV (kV r) (kV q) = decide (r = q) := by
  cases r with
  | inl i =>
    cases q with
    | inl j =>
      show (i == j) = _
      rw [key_ll]
    | inr y =>
      show false = _
      rw [key_lr]
  | inr x =>
    cases q with
    | inl j =>
      show false = _
      rw [key_rl]
    | inr y =>
      show (x == y) = _
      rw [key_rr]
      by_cases h : x = y
      · subst h; simp
      · rw [decide_eq_false h]; exact beq_eq_false_iff_ne.mpr h
instance : DecidableEq Key := fun a b => inferInstance
instance : BEq Key := instBEqOfDecidableEq
theorem inV_key (r : Key) (l : List Key) : inV (kV r) (l.map kV) = decide (r ∈ l) := by
  unfold inV
  induction l with
  | nil => rfl
  | cons q l ih =>
    rw [List.map_cons, List.any_cons, ih, eqV_key]
    by_cases h : q = r
    · subst h; simp
    · have h' : ¬ r = q := fun z => h z.symm
      simp [h, h']
theorem kV_inj {r q : Key} (h : kV r = kV q) : r = q := by
  cases r <;> cases q <;> first | cases h; rfl | cases h
/-! types -/
theorem ty_tup {K : PySem.W.Frag} {H : Hp} {a : Addr} {xs : List V} (h : SqT K H a xs) : TyX K H (.ref a) (.type "tuple") := by
  rcases h with (h | ⟨o, h⟩) | ⟨o, its, n, h, c, _⟩
  · exact .base (.tup h)
  · exact .fTuple h
  · exact .kTuple h c
theorem ty_lst {K : PySem.W.Frag} {H : Hp} {a : Addr} {xs : List V} (h : SqL K H a xs) : TyX K H (.ref a) (.type "list") := by
  rcases h with (h | ⟨o, h⟩) | ⟨o, its, n, h, c, _⟩
  · exact .base (.lst h)
  · exact .base (.frz h)
  · exact .kList h c
theorem ty_int {K : PySem.W.Frag} {H : Hp} (i : Int) : TyX K H (.int i) (.type "int") := .base (.int i)
theorem ty_str {K : PySem.W.Frag} {H : Hp} (x : Str) : TyX K H (.str x) (.type "str") := .base (.str x)
theorem kit_tt {K : PySem.W.Frag} : PySem.W.kitOne K (.type "tuple") (.type "tuple") = some true := kit_ty (by decide +kernel)
theorem kit_it {K : PySem.W.Frag} : PySem.W.kitOne K (.type "int") (.type "tuple") = some false := kit_ty (by decide +kernel)
theorem kit_st {K : PySem.W.Frag} : PySem.W.kitOne K (.type "str") (.type "tuple") = some false := kit_ty (by decide +kernel)
theorem kit_ii {K : PySem.W.Frag} : PySem.W.kitOne K (.type "int") (.type "int") = some true := kit_ty (by decide +kernel)
theorem kit_si {K : PySem.W.Frag} : PySem.W.kitOne K (.type "str") (.type "int") = some false := kit_ty (by decide +kernel)
theorem kit_is {K : PySem.W.Frag} : PySem.W.kitOne K (.type "int") (.type "str") = some false := kit_ty (by decide +kernel)
theorem kit_ss {K : PySem.W.Frag} : PySem.W.kitOne K (.type "str") (.type "str") = some true := kit_ty (by decide +kernel)
theorem kit_ll {K : PySem.W.Frag} : PySem.W.kitOne K (.type "list") (.type "list") = some true := kit_ty (by decide +kernel)
/-- isinstance(ref, int), isinstance(ref, str) of a reference -/
def isI : Key → Bool
  | .inl _ => true
  | .inr _ => false
theorem ty_key {K : PySem.W.Frag} {H : Hp} (r : Key) : ∃ t, TyX K H (kV r) t ∧ PySem.W.kitOne K t (.type "int") = some (isI r) ∧ PySem.W.kitOne K t (.type "str") = some (!isI r) := by
  cases r with
  | inl i => exact ⟨_, ty_int i, kit_ii, kit_is⟩
  | inr x => exact ⟨_, ty_str x, kit_si, kit_ss⟩
/-! the pool of numbers -/
def Pool (H : Hp) (l : Addr) : Prop := ∃ a b c : Int, H l = some (.lst [.int a, .int b, .int c]) ∧ 0 ≤ a ∧ 0 ≤ b ∧ 0 ≤ c
theorem Pool.lsts {H : Hp} {l : Addr} (p : Pool H l) : Lsts [l] H := by
  obtain ⟨a, b, c, h, _⟩ := p
  exact Lsts.one h
theorem Pool.kp {S : List Addr} {H H' : Hp} {l : Addr} (p : Pool H l) (n : l ∉ S) (e : Kp S H H') : Pool H' l := by
  obtain ⟨a, b, c, h, r⟩ := p
  exact ⟨a, b, c, e l _ n h, r⟩
/-! cuts of tuples -/
theorem cut_from (xs : List V) (k : Nat) : cutV xs (some (k : Int)) none = xs.drop k := by
  unfold cutV
  rw [HT.sIx_nat, HT.sIx_none]
  by_cases h : k ≤ xs.length
  · rw [Nat.min_eq_left h, List.take_of_length_le (by rw [List.length_drop] <;> omega)]
  · rw [Nat.min_eq_right (by omega), List.drop_eq_nil_of_le (Nat.le_refl _), List.drop_eq_nil_of_le (by omega), List.take_nil]
theorem cut_to (xs : List V) (k : Nat) (h : k ≤ xs.length) : cutV xs none (some (k : Int)) = xs.take k := by
  unfold cutV
  rw [HT.sIx_nat, HT.sIx_none, Nat.min_eq_left h, List.drop_zero, Nat.sub_zero]
theorem atI_at {α : Type} {xs : List α} {z : Int} {j : Nat} {v : α} (e : z = (j : Int)) (h : xs[j]? = some v) : atI xs z = some v := by
  rw [e]; exact atI_nat h
end HA

/-! Rules whose readings speak of some later heap in which all that stood stands. -/
namespace HA
open PySem PySem.Spec PyProof.Rows L2
section
variable {X : Cx}
theorem op_imp {f : Value → Value → Sem Value} {r r' : R2} (h : OpR X f r) (i : ∀ x y H Q, r' x y H Q → r x y H Q) : OpR X f r' :=
  fun pins s σ H x y v u Q I rx ry q => h pins s σ H x y v u Q I rx ry (i x y H Q q)
theorem cr_imp {f : Value} {r r' : List V → Hp → VK → Prop} (h : CallR X f r) (i : ∀ xs H Q, r' xs H Q → r xs H Q) : CallR X f r' :=
  fun pins s σ H xs us Q I rx q => h pins s σ H xs us Q I rx (i xs H Q q)
theorem sl_imp {r r' : V → Option Int → Option Int → Hp → VK → Prop} (h : SlR X r) (i : ∀ x lo hi H Q, r' x lo hi H Q → r x lo hi H Q) : SlR X r' :=
  fun pins s σ H x v vl vu lo hi sl Q I rx hs pl pu q => h pins s σ H x v vl vu lo hi sl Q I rx hs pl pu (i x lo hi H Q q)
/-- a cut of a tuple -/
def rSlN (K : PySem.W.Frag) : V → Option Int → Option Int → Hp → VK → Prop := fun x lo hi H Q =>
  ∃ a xs, x = .ref a ∧ SqT K H a xs ∧ ∀ H' b, Same H H' → SqT K H' b (cutV xs lo hi) → Q (.ref b) H'
theorem cut_whole {xs : List V} {lo hi : Option Int} (h : HT.sIx xs.length 0 lo = 0 ∧ HT.sIx xs.length xs.length hi = xs.length) : cutV xs lo hi = xs := by
  unfold cutV
  rw [h.1, h.2, List.drop_zero, Nat.sub_zero, List.take_length]
theorem sl_tupN : SlR X (rSlN X.K) := sl_imp sl_tupA fun x lo hi H Q ⟨a, xs, e, h, q⟩ =>
  ⟨a, xs, e, h, fun w => q H a (Same.refl H) (by rw [cut_whole w]; exact h), fun _ p hp => q _ p (Same.new hp) (SqT.of upd_same)⟩
/-- a cut of a list: a new list -/
def rSlL (K : PySem.W.Frag) : V → Option Int → Option Int → Hp → VK → Prop := fun x lo hi H Q =>
  ∃ a xs, x = .ref a ∧ SqL K H a xs ∧ ∀ H' b, Same H H' → H b = none → H' b = some (.lst (cutV xs lo hi)) → Q (.ref b) H'
theorem sl_listN : SlR X (rSlL X.K) := sl_imp sl_list fun x lo hi H Q ⟨a, xs, e, h, q⟩ =>
  ⟨a, xs, e, h, fun p hp => q _ p (Same.new hp) hp upd_same⟩
/-- two tuples, one behind the other -/
def rCatN (K : PySem.W.Frag) : R2 := fun x y H Q => ∃ a b xs ys, x = .ref a ∧ y = .ref b ∧ SqT K H a xs ∧ SqT K H b ys ∧
  xs.length + ys.length ≤ sizeLine ∧ ∀ H' c, Same H H' → SqT K H' c (xs ++ ys) → Q (.ref c) H'
theorem op_catN : OpR X (binaryOp .Add) (rCatN X.K) := op_imp op_catA fun x y H Q ⟨a, b, xs, ys, ex, ey, hx, hy, z, q⟩ =>
  ⟨a, b, xs, ys, ex, ey, hx, hy, z, fun e => q H b (Same.refl H) (by rw [e]; exact hy),
    fun _ e => q H a (Same.refl H) (by rw [e, List.append_nil]; exact hx), fun _ _ p hp => q _ p (Same.new hp) (SqT.of upd_same)⟩
/-- two lists -/
def rCatL : R2 := fun x y H Q => ∃ l b xs zs, x = .ref l ∧ y = .ref b ∧ H l = some (.lst xs) ∧ H b = some (.lst zs) ∧
  xs.length + zs.length ≤ sizeLine ∧ ∀ H' p, Same H H' → H p = none → H' p = some (.lst (xs ++ zs)) → Q (.ref p) H'
theorem op_catL : OpR X (binaryOp .Add) rCatL := op_imp op_cat fun x y H Q ⟨a, b, xs, ys, ex, ey, hx, hy, z, q⟩ =>
  ⟨a, b, xs, ys, ex, ey, hx, hy, z, fun p hp => q _ p (Same.new hp) hp upd_same⟩
/-- list(..), tuple(..) -/
def rListN (K : PySem.W.Frag) : List V → Hp → VK → Prop := fun xs H Q => ∃ p ys, xs = [.ref p] ∧ (SqL K H p ys ∨ SqT K H p ys) ∧
  ∀ H' l, Same H H' → H l = none → H' l = some (.lst ys) → Q (.ref l) H'
theorem call_listN : CallR X (.type "list") (rListN X.K) := cr_imp call_list_of fun xs H Q ⟨p, ys, e, h, q⟩ =>
  ⟨p, ys, e, h, fun l hl => q _ l (Same.new hl) hl upd_same⟩
def rTupleN (K : PySem.W.Frag) : List V → Hp → VK → Prop := fun xs H Q => ∃ p ys, xs = [.ref p] ∧ (SqL K H p ys ∨ SqT K H p ys) ∧
  ∀ H' l, Same H H' → SqT K H' l ys → Q (.ref l) H'
theorem call_tupleN : CallR X (.type "tuple") (rTupleN X.K) := cr_imp call_tuple_of fun xs H Q ⟨p, ys, e, h, q⟩ =>
  ⟨p, ys, e, h.elim (fun h => .inl ⟨h, fun l hl => q _ l (Same.new hl) (SqT.of upd_same)⟩) fun h => .inr ⟨h, q H p (Same.refl H) h⟩⟩
/-- dict(d) -/
def rDictN : List V → Hp → VK → Prop := fun xs H Q => ∃ (a : Addr) (kvs : List (Key × V)), xs = [.ref a] ∧ Rd H a (.dK kvs) ∧
  ∀ H' p, Same H H' → H p = none → H' p = some (.dK kvs) → Q (.ref p) H'
theorem call_dictN : CallR X (.type "dict") rDictN := cr_imp call_dictD fun xs H Q ⟨a, kvs, e, h, q⟩ =>
  ⟨a, kvs, e, h, fun p hp => q _ p (Same.new hp) hp upd_same⟩
section
variable {es : List Expr} {t : TA} {pos : Pos}
/-- (a, b, ..) and [a, b, ..] -/
def tTupN (t : TA) : TE := fun σ H Q => t σ H fun xs H1 => xs.length ≤ 1000 ∧ ∀ H' p, Same H1 H' → H1 p = none → H' p = some (.tup xs) → Q (.ref p) H'
def tLstN (t : TA) : TE := fun σ H Q => t σ H fun xs H1 => xs.length ≤ 1000 ∧ ∀ H' p, Same H1 H' → H1 p = none → H' p = some (.lst xs) → Q (.ref p) H'
theorem pe_tupN {x1} (h : PA X es t) : PE X (.Tuple es x1 pos) (tTupN t) := by
  constructor
  intro pins s σ H Q I hq
  refine wpAny_Tuple_spliced (thn (h.run pos pins s σ H _ I hq) ?_)
  rintro us s1 ⟨xs, H1, I1, r, z, q⟩
  have z' : xs.length ≤ sizeLine := Nat.le_of_lt (small1000 z)
  have hf : H1 s1.heap.objs.size = none := I1.hok.fresh (Nat.le_refl _)
  refine ⟨by rw [← r.length]; exact z', .ref s1.heap.objs.size, upd H1 s1.heap.objs.size (.tup xs), I1.laid (t' := s1.toks) (fun b u e => Heap.get?_push_of_some _ e) (Nat.le_refl _) ?_, rfl, q _ _ (Same.new hf) hf upd_same⟩
  exact ⟨z', us, r, ⟨_, Heap.get?_push_size _ rfl, rfl, _, rfl⟩⟩
theorem pe_lstN (h : PA X es t) : PE X (.List es pos) (tLstN t) := by
  constructor
  intro pins s σ H Q I hq
  refine wpAny_List_spliced (thn (h.run pos pins s σ H _ I hq) ?_)
  rintro us s1 ⟨xs, H1, I1, r, z, q⟩
  have z' : xs.length ≤ sizeLine := Nat.le_of_lt (small1000 z)
  have hf : H1 s1.heap.objs.size = none := I1.hok.fresh (Nat.le_refl _)
  refine ⟨by rw [← r.length]; exact z', .ref s1.heap.objs.size, upd H1 s1.heap.objs.size (.lst xs), I1.laid (t' := s1.toks) (fun b u e => Heap.get?_push_of_some _ e) (Nat.le_refl _) ?_, rfl, q _ _ (Same.new hf) hf upd_same⟩
  exact ⟨z', us, 0, r, Heap.get?_push_size _ rfl⟩
/-- {} -/
def tDictN : TE := fun _ H Q => ∀ H' p, Same H H' → H p = none → H' p = some (.dK []) → Q (.ref p) H'
theorem pe_dictN : PE X (.Dict [] [] pos) tDictN := by
  constructor
  intro pins s σ H Q I hq
  exact (pe_dnewK (X := X) (pos := pos)).run pins s σ H Q I fun p hp => hq _ p (Same.new hp) hp upd_same
end
end
/-- a text's length line -/
theorem sz_le {n : Nat} (h : n ≤ 100000) : n ≤ sizeLine := Nat.le_trans h (by decide)
theorem sz_lt {n : Nat} (h : n ≤ 100000) : n < sizeLine := Nat.lt_of_le_of_lt h (by decide)
end HA

/-! Derivations as data, moved, their references. -/
namespace HA
open PySem PySem.Spec PyProof.Rows L2
inductive Kd where
  | once
  | st (n k : Int)
def Kd.d : Kd → PyData
  | .once => .str "once"
  | .st n k => .tuple [.int n, .int k]
inductive Sn where
  | word (x : Str)
  | menu (a b : Sn)
  | trade (k : Kd) (a b : Sn)
def Sn.d : Sn → PyData
  | .word x => .tuple [.str "word", .str x]
  | .menu a b => .tuple [.str "menu", a.d, b.d]
  | .trade k a b => .tuple [.str "trade", k.d, a.d, b.d]
inductive Row where
  | own (r : Key)
  | cite (x : Str)
  | take (b : Row)
  | pick (r : Key) (s : Str) (b : Row)
  | make (x : Str) (i : Int) (b : Row)
  | opn (r : Key) (x : Str) (i : Int) (b : Row)
  | offer (a b : Row)
  | pay (r : Key) (k : Kd) (a b : Row)
  | cut (k : Kd) (s : Sn) (a b : Row)
namespace Row
def name : Row → Str
  | own _ => "own"
  | cite _ => "cite"
  | take _ => "take"
  | pick _ _ _ => "pick"
  | make _ _ _ => "make"
  | opn _ _ _ _ => "open"
  | offer _ _ => "offer"
  | pay _ _ _ _ => "pay"
  | cut _ _ _ _ => "cut"
def kids : Row → List Row
  | own _ => []
  | cite _ => []
  | take b => [b]
  | pick _ _ b => [b]
  | make _ _ b => [b]
  | opn _ _ _ b => [b]
  | offer a b => [a, b]
  | pay _ _ a b => [a, b]
  | cut _ _ a b => [a, b]
def mid : Row → List PyData
  | own r => [kD r]
  | cite x => [.str x]
  | take _ => []
  | pick r s _ => [kD r, .str s]
  | make x i _ => [.str x, .int i]
  | opn r x i _ => [kD r, .str x, .int i]
  | offer _ _ => []
  | pay r k _ _ => [kD r, k.d]
  | cut k s _ _ => [k.d, s.d]
def d : Row → PyData
  | own r => .tuple [.str "own", kD r]
  | cite x => .tuple [.str "cite", .str x]
  | take b => .tuple [.str "take", b.d]
  | pick r s b => .tuple [.str "pick", kD r, .str s, b.d]
  | make x i b => .tuple [.str "make", .str x, .int i, b.d]
  | opn r x i b => .tuple [.str "open", kD r, .str x, .int i, b.d]
  | offer a b => .tuple [.str "offer", a.d, b.d]
  | pay r k a b => .tuple [.str "pay", kD r, k.d, a.d, b.d]
  | cut k s a b => .tuple [.str "cut", k.d, s.d, a.d, b.d]
theorem d_eq (t : Row) : t.d = .tuple (.str t.name :: (t.mid ++ t.kids.map d)) := by cases t <;> rfl
def ref : Row → Option Key
  | own r => some r
  | pick r _ _ => some r
  | opn r _ _ _ => some r
  | pay r _ _ _ => some r
  | _ => none
/-- the height, the number of rows -/
def ht : Row → Nat
  | own _ => 1
  | cite _ => 1
  | take b => b.ht + 1
  | pick _ _ b => b.ht + 1
  | make _ _ b => b.ht + 1
  | opn _ _ _ b => b.ht + 1
  | offer a b => max a.ht b.ht + 1
  | pay _ _ a b => max a.ht b.ht + 1
  | cut _ _ a b => max a.ht b.ht + 1
def sz : Row → Nat
  | own _ => 1
  | cite _ => 1
  | take b => b.sz + 1
  | pick _ _ b => b.sz + 1
  | make _ _ b => b.sz + 1
  | opn _ _ _ b => b.sz + 1
  | offer a b => a.sz + b.sz + 1
  | pay _ _ a b => a.sz + b.sz + 1
  | cut _ _ a b => a.sz + b.sz + 1
theorem ht_kid {t c : Row} (h : c ∈ t.kids) : c.ht < t.ht := by
  cases t <;> simp only [kids, List.mem_cons, List.not_mem_nil, or_false] at h <;>
    first
    | exact h.elim
    | (subst h; simp only [ht]; omega)
    | (rcases h with rfl | rfl <;> simp only [ht] <;> omega)
theorem ht_pos (t : Row) : 0 < t.ht := by cases t <;> simp only [ht] <;> omega
theorem sz_kids (t : Row) : (t.kids.map sz).sum + 1 = t.sz := by cases t <;> simp [kids, sz] <;> omega
end Row
/-- a renaming as it stands in a dict -/
abbrev Ren := List (Key × Key)
def Ren.kv (ρ : Ren) : List (Key × V) := ρ.map fun p => (p.1, kV p.2)
def Ren.look (ρ : Ren) (r : Key) : Option Key := (ρ.find? fun p => decide (p.1 = r)).map (·.2)
def Ren.to (ρ : Ren) (r : Key) : Key := (ρ.look r).getD r
theorem Ren.valV (ρ : Ren) (r : Key) : L2.valV ρ.kv r = (ρ.look r).map kV := by
  unfold L2.valV Ren.look Ren.kv
  rw [List.find?_map]
  cases h : ρ.find? (fun p => decide (p.1 = r)) with
  | none =>
    have h' : List.find? ((fun kv : Key × V => decide (kv.1 = r)) ∘ fun p : Key × Key => (p.1, kV p.2)) ρ = none := h
    rw [h']; rfl
  | some p =>
    have h' : List.find? ((fun kv : Key × V => decide (kv.1 = r)) ∘ fun p : Key × Key => (p.1, kV p.2)) ρ = some p := h
    rw [h']; rfl
/-- a reference of a part that moves -/
def mvRef (old new : Int) (ρ : Ren) : Key → Key
  | .inl i => if i ≥ old then .inl (i + new - old) else ρ.to (.inl i)
  | .inr x => ρ.to (.inr x)
namespace Row
def mv (old new : Int) (ρ : Ren) : Row → Row
  | own r => own (mvRef old new ρ r)
  | cite x => cite x
  | take b => take (b.mv old new ρ)
  | pick r s b => pick (mvRef old new ρ r) s (b.mv old new ρ)
  | make x i b => make x i (b.mv old new ρ)
  | opn r x i b => opn (mvRef old new ρ r) x i (b.mv old new ρ)
  | offer a b => offer (a.mv old new ρ) (b.mv old new ρ)
  | pay r k a b => pay (mvRef old new ρ r) k (a.mv old new ρ) (b.mv old new ρ)
  | cut k s a b => cut k s (a.mv old new ρ) (b.mv old new ρ)
theorem mv_none {old new : Int} {ρ : Ren} {t : Row} (h : t.ref = none) :
    (t.mv old new ρ).d = .tuple (.str t.name :: (t.mid ++ (t.kids.map (mv old new ρ)).map d)) := by
  cases t <;> first | rfl | cases h
theorem mid_some {t : Row} {r : Key} (h : t.ref = some r) : ∃ m, t.mid = kD r :: m := by
  cases t <;> first | (cases h; exact ⟨_, rfl⟩) | cases h
theorem mv_some {old new : Int} {ρ : Ren} {t : Row} {r : Key} {m : List PyData} (h : t.ref = some r) (hm : t.mid = kD r :: m) :
    (t.mv old new ρ).d = .tuple (.str t.name :: kD (mvRef old new ρ r) :: (m ++ (t.kids.map (mv old new ρ)).map d)) := by
  cases t <;> first | (cases h; cases hm; rfl) | cases h
theorem mv_ht (old new : Int) (ρ : Ren) (t : Row) : (t.mv old new ρ).ht = t.ht := by
  induction t <;> simp only [mv, ht, *]
theorem mv_sz (old new : Int) (ρ : Ren) (t : Row) : (t.mv old new ρ).sz = t.sz := by
  induction t <;> simp only [mv, sz, *]
/-- the references in preorder -/
def refs : Row → List Key
  | own r => [r]
  | cite _ => []
  | take b => b.refs
  | pick r _ b => r :: b.refs
  | make _ _ b => b.refs
  | opn r _ _ b => r :: b.refs
  | offer a b => a.refs ++ b.refs
  | pay r _ a b => r :: (a.refs ++ b.refs)
  | cut _ _ a b => a.refs ++ b.refs
theorem refs_eq (t : Row) : t.refs = t.ref.toList ++ (t.kids.map refs).flatten := by
  cases t <;> simp [refs, ref, kids]
theorem refs_mv (old new : Int) (ρ : Ren) (t : Row) : (t.mv old new ρ).refs = t.refs.map (mvRef old new ρ) := by
  induction t <;> simp only [mv, refs, List.map_cons, List.map_append, List.map_nil, *]
theorem refs_len (t : Row) : t.refs.length ≤ t.sz := by
  induction t <;> simp only [refs, sz, List.length_cons, List.length_append, List.length_nil] <;> omega
/-- moved twice is moved once, if the references agree -/
theorem mv_mv {a b c : Int} {ρ τ υ : Ren} (t : Row) (h : ∀ r ∈ t.refs, mvRef b c τ (mvRef a b ρ r) = mvRef a c υ r) :
    (t.mv a b ρ).mv b c τ = t.mv a c υ := by
  induction t <;> simp only [refs, List.mem_cons, List.mem_append, List.not_mem_nil, or_false, forall_eq_or_imp, forall_eq, or_imp, forall_and] at h <;> simp_all [mv]
theorem mv_id {a b : Int} {ρ : Ren} (t : Row) (h : ∀ r ∈ t.refs, mvRef a b ρ r = r) : t.mv a b ρ = t := by
  induction t <;> simp only [refs, List.mem_cons, List.mem_append, List.not_mem_nil, or_false, forall_eq_or_imp, forall_eq, or_imp, forall_and] at h <;> simp_all [mv]
end Row
/-! lists without repetition, in the order of the first occurrence -/
def addTo (f : List Key) (xs : List Key) : List Key := xs.foldl (fun f x => if x ∈ f then f else f ++ [x]) f
theorem addTo_nil (f : List Key) : addTo f [] = f := rfl
theorem addTo_cons (f : List Key) (x : Key) (xs : List Key) : addTo f (x :: xs) = addTo (if x ∈ f then f else f ++ [x]) xs := rfl
theorem addTo_app (f xs ys : List Key) : addTo f (xs ++ ys) = addTo (addTo f xs) ys := List.foldl_append
theorem mem_addTo {y : Key} : ∀ {xs f : List Key}, y ∈ addTo f xs ↔ y ∈ f ∨ y ∈ xs
  | [], f => by simp [addTo_nil]
  | x :: xs, f => by
    rw [addTo_cons, mem_addTo]
    by_cases h : x ∈ f
    · rw [if_pos h]
      constructor
      · rintro (h1 | h1)
        · exact .inl h1
        · exact .inr (.tail _ h1)
      · rintro (h1 | h1)
        · exact .inl h1
        · rcases List.mem_cons.mp h1 with rfl | h1
          · exact .inl h
          · exact .inr h1
    · rw [if_neg h]
      simp only [List.mem_append, List.mem_cons, List.not_mem_nil, or_false]
      constructor
      · rintro ((h1 | h1) | h1)
        · exact .inl h1
        · exact .inr (.inl h1)
        · exact .inr (.inr h1)
      · rintro (h1 | h1 | h1)
        · exact .inl (.inl h1)
        · exact .inl (.inr h1)
        · exact .inr h1
theorem addTo_sub : ∀ {xs f : List Key}, (∀ x ∈ xs, x ∈ f) → addTo f xs = f
  | [], _, _ => rfl
  | x :: xs, f, h => by
    rw [addTo_cons, if_pos (h x (.head _))]
    exact addTo_sub fun y hy => h y (.tail _ hy)
/-- what is added may be made unique ahead -/
theorem addTo_uniq (g : List Key) : ∀ (xs f : List Key), (∀ x ∈ f, x ∈ g ∨ x ∈ f) → addTo g (addTo f xs) = addTo (addTo g f) xs
  | [], f, _ => rfl
  | x :: xs, f, h => by
    rw [addTo_cons, addTo_cons]
    by_cases hx : x ∈ f
    · rw [if_pos hx, if_pos (mem_addTo.mpr (.inr hx)), addTo_uniq g xs f h]
    · rw [if_neg hx, addTo_uniq g xs (f ++ [x]) (fun y hy => .inr hy), addTo_app]
      rfl
theorem addTo_one (g xs : List Key) : addTo g (addTo [] xs) = addTo g xs := by
  have := addTo_uniq g xs [] (fun x hx => .inr hx)
  rw [addTo_nil] at this
  exact this
theorem addTo_len : ∀ (xs f : List Key), (addTo f xs).length ≤ f.length + xs.length
  | [], f => by simp [addTo_nil]
  | x :: xs, f => by
    rw [addTo_cons]
    refine Nat.le_trans (addTo_len xs _) ?_
    split
    · rw [List.length_cons]; omega
    · rw [List.length_append, List.length_cons, List.length_cons, List.length_nil]; omega
/-- the images of different references, each once -/
theorem addTo_map (g : Key → Key) : ∀ (xs f : List Key), addTo [] ((addTo f xs).map g) = addTo (addTo [] (f.map g)) (xs.map g)
  | [], f => rfl
  | x :: xs, f => by
    rw [addTo_cons, addTo_map g xs, List.map_cons, addTo_cons]
    by_cases hx : x ∈ f
    · rw [if_pos hx, if_pos (mem_addTo.mpr (.inr (List.mem_map_of_mem hx)))]
    · rw [if_neg hx, List.map_append, addTo_app]
      rfl
/-- a name, or a level below -/
def isFree (level : Int) : Key → Bool
  | .inl i => decide (i < level)
  | .inr _ => true
def Row.free (t : Row) (level : Int) : List Key := addTo [] (t.refs.filter (isFree level))
theorem free_len (t : Row) (level : Int) : (t.free level).length ≤ t.sz := by
  refine Nat.le_trans (addTo_len _ _) ?_
  rw [List.length_nil, Nat.zero_add]
  exact Nat.le_trans (List.length_filter_le _ _) t.refs_len
end HA

/-! Sets of keys of any kind: what they hold, whatever the order. -/
namespace HX
open PySem PySem.Spec PyProof.Rows L2
section
variable {P : Program} {w : World} {K : Type} [DecidableEq K] {knd : KeyKind P w K}
abbrev Rows (knd : KeyKind P w K) (ps : List (K × Value)) : List (Int × Value) := ps.map fun p => (knd.hash p.1, p.2)
/-- members of the kind, which a scan may meet -/
def Kinds (knd : KeyKind P w K) (ps : List (K × Value)) : Prop := ∀ p ∈ ps, knd.is p.1 p.2 = true ∧ p.2.scannable = true
abbrev Keys (ps : List (K × Value)) : List K := ps.map (·.1)
/-- at a: the set of these members -/
structure SetX (knd : KeyKind P w K) (h : Heap) (a : Addr) (ps : List (K × Value)) (o : Obj) (es : Array (Int × Value)) (ep : Nat) (t : SetTable) : Prop where
  at_ : h.get? a = some o
  exact : o.ExactSet
  data : o.data = .set es ep t
  rows : es.toList.Perm (Rows knd ps)
  kinds : Kinds knd ps
  nodup : (Keys ps).Nodup
  few : es.size < scanBound
  fits : t.fits es.size = true
  ris : Ris t.place.toList
  order : w.params.followText "set-order" = true ∨ t.led = true
theorem Kinds.elems {ps : List (K × Value)} (h : Kinds knd ps) {l : List (Int × Value)} (p : l.Perm (Rows knd ps)) : ElemsOf knd l := by
  intro e he
  obtain ⟨q, hq, rfl⟩ := List.mem_map.mp (p.mem_iff.mp he)
  exact ⟨⟨q.1, (h q hq).1, rfl⟩, (h q hq).2⟩
theorem Kinds.is_iff {ps : List (K × Value)} (h : Kinds knd ps) {l : List (Int × Value)} (p : l.Perm (Rows knd ps)) (k : K) : (∃ e ∈ l, knd.is k e.2 = true) ↔ k ∈ Keys ps := by
  constructor
  · rintro ⟨e, he, hk⟩
    obtain ⟨q, hq, rfl⟩ := List.mem_map.mp (p.mem_iff.mp he)
    have := knd.inj _ _ _ hk (h q hq).1
    subst this
    exact List.mem_map_of_mem hq
  · intro hk
    obtain ⟨q, hq, rfl⟩ := List.mem_map.mp hk
    exact ⟨_, p.mem_iff.mpr (List.mem_map_of_mem hq), (h q hq).1⟩
theorem SetX.size {h : Heap} {a : Addr} {ps : List (K × Value)} {o : Obj} {es : Array (Int × Value)} {ep : Nat} {t : SetTable} (R : SetX knd h a ps o es ep t) : es.size = ps.length := by
  have := R.rows.length_eq
  rw [Array.length_toList, List.length_map] at this
  exact this
theorem SetX.keep {h h' : Heap} {a : Addr} {ps : List (K × Value)} {o : Obj} {es : Array (Int × Value)} {ep : Nat} {t : SetTable} (R : SetX knd h a ps o es ep t) (k : ∀ u, h.get? a = some u → h'.get? a = some u) : SetX knd h' a ps o es ep t :=
  { R with at_ := k _ R.at_ }
theorem SetX.lt {h : Heap} {a : Addr} {ps : List (K × Value)} {o : Obj} {es : Array (Int × Value)} {ep : Nat} {t : SetTable} (R : SetX knd h a ps o es ep t) : a < h.objs.size := Heap.lt_size R.at_
end
section
variable {P : Program} {w : World} {K : Type} [DecidableEq K] {knd : KeyKind P w K} {A : Around} {E : Value → Shared → Prop} {s : Shared} {a : Addr} {ps : List (K × Value)} {o : Obj} {es : Array (Int × Value)} {ep : Nat} {t : SetTable}
/-- a member that is new is laid, the table is laid anew where it is too full -/
theorem setX_lay {g : Bool → Sem Unit} (gw : ∀ (b : Bool) (s1 : Shared) (Z : Unit → Shared → Prop), Z () s1 → wpAny (model P w) A (g b) Z E s1)
    (at_ : s.heap.get? a = some o) (ex : o.ExactSet) (dat : o.data = .set es ep t) {es1 : Array (Int × Value)} {t1 : SetTable} {qs : List (K × Value)}
    (rows : es1.toList.Perm (Rows knd qs)) (kinds : Kinds knd qs) (nodup : (Keys qs).Nodup) (few : es1.size < scanBound) (fits : t1.fits es1.size = true) (ris : Ris t1.place.toList)
    (order : w.params.followText "set-order" = true ∨ t1.led = true) {dm : Bool} {Z : Option Bool → Shared → Prop}
    (go : ∀ h' o' es' ep' t', Heap.SameBut a s.heap h' → SetX knd h' a qs o' es' ep' t' → Z (some true) { s with heap := h' }) :
    wpAny (model P w) A (do
      storeSet a es1 t1
      if (!dm && t1.tooFull) = true then do
          g (relayAll t1 es1 (SetTable.grown es1.size)).2.2
          storeSet a (relayAll t1 es1 (SetTable.grown es1.size)).1 (relayAll t1 es1 (SetTable.grown es1.size)).2.1
          pure (some true)
        else pure (some true)) Z E s := by
  have u1 := store_at (es' := es1) (t' := t1) at_ dat
  have b1 := Heap.SameBut.update s.heap a (Obj.putSet es1 t1)
  refine wpAny_bind (wpAny_storeSet_of at_ dat ?_ (fits_of_scanBound few))
  by_cases full : (!dm && t1.tooFull) = true
  · rw [if_pos full]
    have r1 := relayAll_perm t1 es1 (SetTable.grown es1.size)
    have r2 := relayAll_fits t1 es1 (SetTable.grown es1.size)
    have r3 := relayAll_ris t1 es1 (SetTable.grown es1.size)
    have r4 := relayAll_led t1 es1 (SetTable.grown es1.size)
    generalize relayAll t1 es1 (SetTable.grown es1.size) = laid at r1 r2 r3 r4 ⊢
    obtain ⟨es2, t2, gave⟩ := laid
    dsimp only at r1 r2 r3 r4 ⊢
    have few2 : es2.size < scanBound := by
      have := r1.length_eq
      rw [Array.length_toList, Array.length_toList] at this
      rw [this]
      exact few
    refine wpAny_bind (gw _ _ _ (wpAny_bind (wpAny_storeSet_of u1 rfl ?_ (fits_of_scanBound few2))))
    refine wpAny_pure (go _ _ es2 _ t2 (b1.trans (Heap.SameBut.update _ a _)) ⟨store_at u1 rfl, ex, rfl, r1.trans rows, kinds, nodup, few2, r2, r3, ?_⟩)
    exact order.imp id fun z => by rw [r4]; exact z
  · rw [if_neg full]
    exact wpAny_pure (go _ _ es1 _ t1 b1 ⟨u1, ex, rfl, rows, kinds, nodup, few, fits, ris, order⟩)
/-- what a member that is added leaves -/
def Added (k : K) (v : Value) (ps qs : List (K × Value)) : Prop := (k ∈ Keys ps ∧ qs = ps) ∨ (k ∉ Keys ps ∧ qs = (k, v) :: ps)
theorem setX_add {k : K} {v : Value} {Z : Bool → Shared → Prop} (R : SetX knd s.heap a ps o es ep t) (hk : knd.is k v = true) (hs : v.scannable = true) (room : ps.length + 1 < scanBound)
    (go : ∀ h' qs o' es' ep' t' b, Heap.SameBut a s.heap h' → SetX knd h' a qs o' es' ep' t' → Added k v ps qs → Z b { s with heap := h' }) :
    wpAny (model P w) A (setAddHashed a v (knd.hash k)) Z E s := by
  have elems := R.kinds.elems R.rows
  unfold setAddHashed setAddHashedIn
  refine wpAny_holding (wpAny_bind (wpAny_setState_of R.at_ R.data R.fits ?_))
  dsimp only
  rw [byScan_of hs R.few elems]
  simp only [↓reduceIte]
  unfold setAddByScan
  refine wpAny_bind (wpAny_bind (wpAny_rule (wpAny_bind (wpAny_setScan_of hk R.at_ R.data R.fits elems ?_))))
  cases found : List.findIdx? (fun e => knd.is k e.2) es.toList with
  | some j =>
    obtain ⟨jl, jk, _⟩ := List.findIdx?_eq_some_iff_getElem.mp found
    dsimp only
    exact wpAny_pure (wpAny_pure (go s.heap ps o es ep t _ (Heap.SameBut.refl a s.heap) R (.inl ⟨(R.kinds.is_iff R.rows k).mp ⟨_, List.getElem_mem jl, jk⟩, rfl⟩)))
  | none =>
    dsimp only
    have new : k ∉ Keys ps := fun z => by
      obtain ⟨e, he, hke⟩ := (R.kinds.is_iff R.rows k).mpr z
      have c := List.findIdx?_eq_none_iff.mp found e he
      rw [hke] at c
      cases c
    have giving : ∀ (b : Bool) {s1 : Shared} {Y : Unit → Shared → Prop}, Y () s1 → wpAny (model P w) A (match b with | true => rule "set.scan.the-table-gave-way" | false => pure ()) Y E s1 := by
      intro b s1 Y y
      cases b
      · exact wpAny_pure y
      · exact wpAny_rule y
    have l1 := layNew_perm t es (knd.hash k) v
    have l2 := layNew_fits t es (knd.hash k) v
    have l3 := layNew_ris t es (knd.hash k) v R.ris
    have l4 := layNew_led t es (knd.hash k) v
    generalize layNew t es (knd.hash k) v = laid at l1 l2 l3 l4 ⊢
    obtain ⟨es1, t1, dm, gave⟩ := laid
    dsimp only at l1 l2 l3 l4 ⊢
    rw [Array.toList_push] at l1
    have rows : es1.toList.Perm (Rows knd ((k, v) :: ps)) := (l1.trans (List.perm_append_singleton _ _)).trans (R.rows.cons _)
    have kinds : Kinds knd ((k, v) :: ps) := fun p hp => by
      rcases List.mem_cons.mp hp with rfl | hp
      · exact ⟨hk, hs⟩
      · exact R.kinds p hp
    have nodup : (Keys ((k, v) :: ps)).Nodup := List.nodup_cons.mpr ⟨new, R.nodup⟩
    have few : es1.size < scanBound := by
      have := rows.length_eq
      rw [Array.length_toList, List.length_map, List.length_cons] at this
      rw [this]
      exact room
    have order : w.params.followText "set-order" = true ∨ t1.led = true := R.order.imp id fun z => by rw [l4]; exact z
    refine wpAny_bind (giving _ ?_)
    split
    · refine wpAny_bind ?_
      rw [hashByValue_scannable 8 hs]
      refine wpAny_pure (setX_lay (knd := knd) (qs := (k, v) :: ps) ?_ R.at_ R.exact R.data rows kinds nodup few ?_ ?_ ?_ fun h' o' es' ep' t' sb r => wpAny_pure (go h' _ o' es' ep' t' _ sb r (.inr ⟨new, rfl⟩)))
      · intro b s1 Y y; cases b <;> first | exact wpAny_pure y | exact wpAny_rule y
      · first | exact l2 | (split <;> first | exact l2 | exact SetTable.fits_plain_off l2)
      · first | exact l3 | (split <;> exact l3)
      · first | exact order | (split <;> exact order)
    · refine wpAny_bind (wpAny_pure ?_)
      simp only [↓reduceIte]
      refine setX_lay (knd := knd) (qs := (k, v) :: ps) ?_ R.at_ R.exact R.data rows kinds nodup few l2 l3 order fun h' o' es' ep' t' sb r => wpAny_pure (go h' _ o' es' ep' t' _ sb r (.inr ⟨new, rfl⟩))
      intro b s1 Y y; cases b <;> first | exact wpAny_pure y | exact wpAny_rule y
end
end HX

/-! set(xs), sorted(set): texts. -/
namespace HX
open PySem PySem.Spec PyProof.Rows L2
section
variable {P : Program} {w : World} {K : Type} [DecidableEq K] {knd : KeyKind P w K} {A : Around} {E : Value → Shared → Prop} {s : Shared}
/-- a set of just the keys ks, each once -/
def SetOn (knd : KeyKind P w K) (h : Heap) (a : Addr) (ks : List K) : Prop := ∃ qs o es ep t, SetX knd h a qs o es ep t ∧ (∀ x, x ∈ Keys qs ↔ x ∈ ks) ∧ qs.length ≤ ks.length
theorem SetOn.keep {h h' : Heap} {a : Addr} {ks : List K} (R : SetOn knd h a ks) (k : ∀ u, h.get? a = some u → h'.get? a = some u) : SetOn knd h' a ks :=
  let ⟨qs, o, es, ep, t, r, z⟩ := R
  ⟨qs, o, es, ep, t, r.keep k, z⟩
theorem SetOn.next {h : Heap} {a : Addr} {ks : List K} {k : K} {v : Value} {i : Nat} {ps qs : List (K × Value)} {o : Obj} {es : Array (Int × Value)} {ep : Nat} {t : SetTable} (hk : ks[i]? = some k) (m : ∀ x, x ∈ Keys ps ↔ x ∈ ks.take i) (l : ps.length ≤ (ks.take i).length)
    (ad : Added k v ps qs) (R : SetX knd h a qs o es ep t) : SetOn knd h a (ks.take (i + 1)) := by
  have tk : ks.take (i + 1) = ks.take i ++ [k] := by rw [List.take_add_one, hk]; rfl
  refine ⟨qs, o, es, ep, t, R, fun x => ?_, ?_⟩
  · rw [tk, List.mem_append, List.mem_singleton, ← m x]
    rcases ad with ⟨h1, rfl⟩ | ⟨h1, rfl⟩
    · exact ⟨.inl, fun z => z.elim id fun e => e ▸ h1⟩
    · show x ∈ k :: Keys ps ↔ _
      rw [List.mem_cons]
      exact Or.comm
  · rw [tk, List.length_append, List.length_singleton]
    rcases ad with ⟨_, rfl⟩ | ⟨_, rfl⟩
    · omega
    · rw [List.length_cons]; omega
theorem fill_loop {I : Addr} {fp wr : List Addr} {G : Array GenState → Array GenState → Prop} {n : Nat} {Pv : Nat → Value → Prop} {St : Nat → Shared → Prop} {R : Result → Shared → Prop}
    (W : WalksS P w A.in1 I fp wr G n Pv St) (S : Addr) (apart : S ∉ fp) (ks : List K) (len : n = ks.length) (room : ks.length + 1 < scanBound)
    (val : ∀ i v, Pv i v → ∃ k, ks[i]? = some k ∧ knd.is k v = true ∧ v.scannable = true) :
    ∀ (left i : Nat) (s : Shared), n - i = left → i ≤ n → St i s → SetOn knd s.heap S (ks.take i) → (∀ s', Moved (S :: wr) G s s' → SetOn knd s'.heap S ks → R (.ok (.ret .none)) s') →
      codeAny (model P w) A (.builtin "set.update.loop" ⟨[.ref S, .ref I], []⟩) R s := by
  have out : S ∉ wr := fun z => apart (W.sub _ z)
  have sub : ∀ b ∈ wr, b ∈ S :: wr := fun b z => List.mem_cons_of_mem _ z
  intro left
  induction left with
  | zero =>
    intro i s e il st so go
    obtain rfl : i = n := by omega
    refine codeAny_builtin F.entry_set_update_loop ?_
    rw [Around.under_plainId F.plain_set_update_loop _]
    refine wpAny_bind (m := pyNext (.ref I)) (W.done s _ _ st fun s' mv => ?_)
    rw [List.take_of_length_le (by omega)] at so
    exact wpAny_pure (go s' (mv.mono sub) (so.keep fun u e => mv.heap S u out e))
  | succ left ih =>
    intro i s e il st so go
    have lt : i < n := by omega
    refine codeAny_builtin F.entry_set_update_loop ?_
    rw [Around.under_plainId F.plain_set_update_loop _]
    refine wpAny_bind (m := pyNext (.ref I)) (W.item i s _ _ lt st fun v s' hv st' mv => ?_)
    obtain ⟨k, hk, isk, sc⟩ := val i v hv
    obtain ⟨ps, o, es, ep, t, X, m, l⟩ := so.keep fun u e => mv.heap S u out e
    refine wpAny_bind (m := holding [v] (setAdd S v)) (wpAny_holding ?_)
    unfold setAdd
    refine wpAny_holding (wpAny_bind (knd.pyHash (k := k) isk ?_))
    have few : ps.length + 1 < scanBound := by
      rw [List.length_take] at l
      omega
    refine setX_add (s := { s' with toks := s'.toks + 1 }) X isk sc few fun h' qs o' es' ep' t' b same X' ad => ?_
    have S' := SetOn.next hk m l ad X'
    refine wpAny_pure ⟨plainId_quiet F.plain_set_update_loop _, ih (i + 1) _ (by omega) lt (W.frame _ s' _ _ st' (Nat.le_succ _) fun b hb u e => ?_) S' fun s2 mv2 so2 => go s2 ?_ so2⟩
    · exact (same.2 b fun z : b = S => apart (z ▸ hb)).trans e
    · exact Moved.trans W.gtrans ((mv.mono sub).then_heap (Nat.le_succ _) fun b u nb e => (same.2 b fun z : b = S => nb (z ▸ List.mem_cons_self)).trans e) mv2
/-- a new set, with nothing in it -/
abbrev emptySet (w : World) : Obj := { cls := .type "set", dict := none, data := .set #[] 0 (.fresh 0 0 (!w.params.followText "set-order")) }
theorem setOn_empty {h : Heap} {a : Addr} (e : h.get? a = some (emptySet w)) : SetOn knd h a [] := by
  refine ⟨[], emptySet w, #[], 0, _, ⟨e, ⟨rfl, rfl, rfl⟩, rfl, .nil, fun p z => (by cases z), List.nodup_nil, by decide, by rfl, List.Pairwise.nil, ?_⟩, fun x => Iff.rfl, Nat.le_refl _⟩
  show _ ∨ (!w.params.followText "set-order") = true
  cases w.params.followText "set-order"
  · exact Or.inr rfl
  · exact Or.inl rfl
set_option maxHeartbeats 8000000 in
theorem call_set_of_list {l : Addr} {items : Array Value} (ks : List K) {Z : Value → Shared → Prop} (calm : A.handled = none) (hl : s.heap.IsList l items) (len : items.size = ks.length) (room : ks.length + 1 < scanBound)
    (val : ∀ (i : Nat) (v : Value), items[i]? = some v → ∃ k, ks[i]? = some k ∧ knd.is k v = true ∧ v.scannable = true)
    (go : ∀ (h' : Heap) (tk : Nat), SetOn knd h' s.heap.objs.size ks → (∀ b u, s.heap.get? b = some u → h'.get? b = some u) → Z (.ref s.heap.objs.size) { s with heap := h', toks := tk }) :
    wpAny (model P w) A (call (.type "set") [.ref l]) Z E s := by
  obtain ⟨c, tl, mro⟩ := F.called_set.mro
  have made := F.called_set.made
  have sub := F.called_set.sub
  have k1 := F.called_set.notType
  have k2 := F.called_set.canCreate
  have k3 := F.typeCall_set_1 (.ref l)
  refine wpAny_call (codeAny_of_tree (show wpAny _ _ (callAny (.type "set") _) _ _ _ from ?_))
  refine wpAny_pure ⟨Code.quiet_builtin _ (by decide +kernel), codeAny_builtin F.entry_type_call ?_⟩
  rw [Around.under_plain (weight_type_call_type "set" [.ref l] []) rfl]
  repeat (any_goals (first | assumption | wp_step))
  refine codeAny_mono (code_set_led1 (.ref l) (E := E) (Q₁ := fun x s1 => x = .ref s.heap.objs.size ∧ s1 = { s with heap := s.heap.push (emptySet w) }) ⟨rfl, rfl⟩) fun r s1 hr => ?_
  match r, hr with
  | .error e, hr => exact hr
  | .ok .next, hr => exact hr.elim
  | .ok .brk, hr => exact hr.elim
  | .ok .cont, hr => exact hr.elim
  | .ok (.ret x), hr =>
    obtain ⟨rfl, rfl⟩ := hr
    have new : (s.heap.push (emptySet w)).get? s.heap.objs.size = some (emptySet w) := Heap.get?_push_size _ rfl
    have ty : Shared.TypeIs { s with heap := s.heap.push (emptySet w) } (.ref s.heap.objs.size) "set" := ⟨_, new, rfl⟩
    have i1 := F.called_set.init.lookup
    have i2 := F.called_set.init.bind (.ref s.heap.objs.size)
    repeat (any_goals (first | assumption | wp_step))
    refine codeAny_mono (codeAny_call_builtin (R := wants (fun r s2 => r = .none ∧ ∃ h' tk, s2 = { s with heap := h', toks := tk } ∧ SetOn knd h' s.heap.objs.size ks ∧ ∀ b u, s.heap.get? b = some u → h'.get? b = some u) E)
      F.called_set.init.plain F.entry_set_init (check_set_init_1 ty ?_)) fun r2 s2 hr2 => ?_
    · obtain ⟨ol, hol, hcl, nl, hdl⟩ := hl
      obtain ⟨oc, od, odt, os⟩ := ol
      simp only at hcl hdl
      subst hcl
      subst hdl
      have there : (s.heap.push (emptySet w)).get? l = some { cls := .type "list", dict := od, data := .seq items nl, slots := os } := Heap.get?_push_of_some _ hol
      have f1 := F.sub_list_set
      have f2 := F.sub_list_frozenset
      have f3 : (Value.type "list" == Value.type "dict") = false := by decide
      have lst : (s.heap.push (emptySet w)).IsList l items := ⟨_, there, rfl, nl, rfl⟩
      unfold Builtin.«set.__init__» noKeywords Builtin.Frozenset.updateFrom
      generalize it : pyIter = PI
      wp_walk
      subst it
      refine wpAny_pyIter_list lst (wpAny_bind (wpAny_runValue ?_))
      have ll : l < s.heap.objs.size := Heap.lt_size hol
      have sz : (s.heap.push (emptySet w)).objs.size = s.heap.objs.size + 1 := Heap.size_push ..
      have ne : l ≠ (s.heap.push (emptySet w)).objs.size := by rw [sz]; exact Nat.ne_of_lt (Nat.lt_succ_of_lt ll)
      have far : s.heap.objs.size ∉ [(s.heap.push (emptySet w)).objs.size, l] := by
        rw [sz]
        simp only [List.mem_cons, List.not_mem_nil, or_false, not_or]
        exact ⟨Nat.ne_of_lt (Nat.lt_succ_self _), Nat.ne_of_gt ll⟩
      refine fill_loop (knd := knd) ((Walks.list (A := A.in1.in1.in1) (by simp [calm]) _ l ne items).toS) s.heap.objs.size far ks len room val (items.size - 0) 0 _ (by omega) (Nat.zero_le _)
        ⟨⟨_, Heap.get?_push_size _ rfl, rfl, rfl⟩, lst.push _⟩ (setOn_empty (Heap.get?_push_of_some _ new)) fun s' mv so => ?_
      obtain ⟨h', g', d', tk', o'⟩ := s'
      obtain rfl : g' = s.gens := mv.gens
      obtain rfl : d' = s.drawn := mv.drawn
      obtain rfl : o' = s.os := mv.os
      refine wpAny_pure (show wpAny _ _ (ret Value.none) _ _ _ from wpAny_pure ⟨rfl, h', tk', rfl, so, fun b u e => ?_⟩)
      have bl : b < s.heap.objs.size := Heap.lt_size e
      refine mv.heap b u ?_ (Heap.get?_push_of_some _ (Heap.get?_push_of_some _ e))
      rw [sz]
      simp only [List.mem_cons, List.not_mem_nil, or_false, not_or]
      exact ⟨Nat.ne_of_lt bl, Nat.ne_of_lt (Nat.lt_succ_of_lt bl)⟩
    · match r2, hr2 with
      | .error e, hr2 => exact hr2
      | .ok .next, hr2 => exact hr2.elim
      | .ok .brk, hr2 => exact hr2.elim
      | .ok .cont, hr2 => exact hr2.elim
      | .ok (.ret y), hr2 =>
        obtain ⟨rfl, h', tk, rfl, so, kept⟩ := hr2
        repeat (any_goals (first | assumption | wp_step))
        exact go _ _ so kept
end
end HX

/-! As rules of the layer. -/
namespace HX
open PySem PySem.Spec PyProof.Rows L2
theorem texts_of {P : Program} {w : World} {qs : List (Str × Value)} (h : Kinds (PySem.strKind P w) qs) : ∀ (l : List Value), (∀ v ∈ l, ∃ q ∈ qs, v = q.2) → StrsAre l (l.map strOf)
  | [], _ => .nil
  | v :: l, m => by
    obtain ⟨q, hq, rfl⟩ := m v (.head _)
    obtain ⟨t, e⟩ := Value.isStrOf_shape (h q hq).1
    have r := texts_of h l fun u hu => m u (.tail _ hu)
    rw [List.map_cons, e]
    exact .cons _ _ r
theorem text_keys {P : Program} {w : World} {qs : List (Str × Value)} (h : Kinds (PySem.strKind P w) qs) : qs.map (fun p => strOf p.2) = Keys qs :=
  List.map_congr_left fun q hq => by
    obtain ⟨t, e⟩ := Value.isStrOf_shape (h q hq).1
    rw [e]
    rfl
section
variable {P : Program} {w : World} {A : Around} {E : Value → Shared → Prop} {s : Shared}
/-- sorted(set), texts -/
theorem sorted_setT {a : Addr} {ks : List Str} {Z : Value → Shared → Prop} (R : SetOn (PySem.strKind P w) s.heap a ks) (calm : A.handled = none) (few : ks.length < 64)
    (go : ∀ (s' : Shared) (p : Addr) (out : Array Value) (c : Nat) (ys : List Str), (∀ b u, s.heap.get? b = some u → s'.heap.get? b = some u) → s'.gens = s.gens → s'.os = s.os → s.heap.objs.size ≤ p →
      s'.heap.get? p = some (seqObj "list" out c) → StrsAre out.toList ys → sortedS ys = true → ys.Nodup → (∀ x, x ∈ ys ↔ x ∈ ks) → Z (.ref p) s') :
    wpAny (model P w) A (call (.builtin "sorted") [.ref a]) Z E s := by
  obtain ⟨qs, o, es, ep, t, X, mem, len⟩ := R
  refine Calls.call_function_entry kind_sorted plain_sorted entry_sorted (args_sorted1 _) ?_
  unfold Builtin.«sorted»
  refine wpAny_bind (m := checkCount "sorted" 1 1 _) (wpAny_pure (wpAny_bind ?_))
  refine collect_set (A := A.in1) calm ⟨o, X.at_, X.exact.1, X.data⟩ X.fits X.few X.ris X.order fun s1 vs kept grown gens os perm => ?_
  have perm2 : vs.Perm (qs.map (·.2)) := by
    have := X.rows.map (·.2)
    rw [List.map_map] at this
    exact perm.trans this
  have sAre : StrsAre vs (vs.map strOf) := texts_of X.kinds vs fun v hv => by
    obtain ⟨q, hq, e⟩ := List.mem_map.mp (perm2.mem_iff.mp hv)
    exact ⟨q, hq, e.symm⟩
  have keys : (vs.map strOf).Perm (Keys qs) := by
    have := perm2.map strOf
    rw [List.map_map] at this
    rw [← text_keys X.kinds]
    exact this
  have vl : vs.length < 64 := by
    have := perm2.length_eq
    rw [List.length_map] at this
    omega
  refine wpAny_bind (wpAny_newList ?_ (by rw [sizeLine_eq]; omega))
  have lst : (s1.heap.push (seqObj "list" vs.toArray 0)).get? s1.heap.objs.size = some (seqObj "list" vs.toArray 0) := Heap.get?_push_size _ rfl
  refine wpAny_bind (wpAny_holding (wpAny_call_entry slot_list_sort ⟨_, lst, rfl⟩ entry_list_sort
    (list_sort_treeK strKind_oneLt lst sAre.keysOf (fun v1 v2 rest e => keyKind_strs (by rw [← e]; exact sAre)) vl fun st p so => ⟨_, rfl, ?_⟩) (args_list_sort _)))
  obtain ⟨ys, y1, y2, y3⟩ := sorted_out_str sAre p so
  obtain ⟨c, at_⟩ := sortedHeap_at (vs := vs) (out := (arrOf st).map (·.2)) lst
  have pk := y2.trans keys
  refine wpAny_pure ⟨_, rfl, go _ s1.heap.objs.size _ c ys (fun b u e => ?_) gens os grown at_ y1 y3 (pk.nodup_iff.mpr X.nodup) fun x => pk.mem_iff.trans (mem x)⟩
  have e1 := kept b u e
  have bl := Heap.lt_size e1
  show (sortedHeap (s1.heap.push (seqObj "list" vs.toArray 0)) s1.heap.objs.size vs ((arrOf st).map (·.2))).get? b = some u
  rw [sortedHeap_old (Nat.ne_of_lt bl) (by rw [size_push']; exact Nat.lt_succ_of_lt bl)]
  exact Heap.get?_push_of_some _ e1
end
/-- the set of these texts, as an object of the heap -/
def SetTO (P : Program) (w : World) (a : Addr) (ks : List Str) : HO := .ext fun h => SetOn (PySem.strKind P w) h a ks
theorem setTO_new {P : Program} {w : World} {H : Hp} {h : Heap} {a : Addr} {ks : List Str} (R : SetOn (PySem.strKind P w) h a ks) : ObjOk P w H h a (SetTO P w a ks) := by
  obtain ⟨qs, o, es, ep, t, X, _⟩ := id R
  exact ⟨R, ⟨o, X.at_⟩, fun h1 h2 r k => SetOn.keep r k⟩
section
variable {X : Cx}
/-- set(xs), xs a list of texts -/
def rSetT (K : PySem.W.Frag) (P : Program) (w : World) : List V → Hp → VK → Prop := fun xs H Q => ∃ (l : Addr) (ks : List Str), xs = [.ref l] ∧ SqL K H l (ks.map V.str) ∧ ks.length < 100 ∧
  ∀ H' p, Same H H' → H p = none → H' p = some (SetTO P w p ks) → Q (.ref p) H'
theorem cr_setT (calm : X.A.handled = none) : CallR X (.type "set") (rSetT X.K X.prog X.w) := by
  intro pins s σ H xs us Q I r h
  obtain ⟨l, ks, rfl, hs, few, q⟩ := h
  obtain ⟨its, rv, hl, hz⟩ := I.list hs
  rw [Vals.ref1 r]
  have sAre := rv.strs
  have len : its.toArray.size = ks.length := by
    have := rv.length
    rw [List.length_map] at this
    rw [List.size_toArray]
    exact this.symm
  refine call_set_of_list (knd := PySem.strKind X.prog X.w) ks calm hl.isList len (by unfold scanBound; omega) (fun i v hv => ?_) fun h' tk so kept => ?_
  · have il : i < ks.length := by
      rw [← len]
      exact (Array.getElem?_eq_some_iff.mp hv).1
    obtain ⟨t, e⟩ := SS.strs_at sAre i v (by rw [← List.getElem?_toArray]; exact hv)
    refine ⟨ks[i], List.getElem?_eq_getElem il, ?_, ?_⟩
    · rw [e, List.getD_eq_getElem?_getD, List.getElem?_eq_getElem il]
      exact strKind_is _ _ _ _
    · rw [e]; rfl
  · have nw : H s.heap.objs.size = none := I.hok.fresh (Nat.le_refl _)
    exact ⟨.ref _, upd H s.heap.objs.size (SetTO X.prog X.w s.heap.objs.size ks), I.laid (t' := tk) kept (Nat.le_refl _) (setTO_new so), rfl, q _ _ (Same.new nw) nw upd_same⟩
/-- sorted(set), texts -/
def rSortedSetT (P : Program) (w : World) : List V → Hp → VK → Prop := fun xs H Q => ∃ (a : Addr) (ks : List Str), xs = [.ref a] ∧ H a = some (SetTO P w a ks) ∧ ks.length < 64 ∧
  ∀ ys H' p, sortedS ys = true → ys.Nodup → (∀ x, x ∈ ys ↔ x ∈ ks) → Same H H' → H p = none → H' p = some (.lst (ys.map V.str)) → Q (.ref p) H'
theorem cr_sortedSetT (calm : X.A.handled = none) : CallR X (.builtin "sorted") (rSortedSetT X.prog X.w) := by
  intro pins s σ H xs us Q I r h
  obtain ⟨a, ks, rfl, ha, few, q⟩ := h
  have so : SetOn (PySem.strKind X.prog X.w) s.heap a ks := (show ObjOk X.prog X.w H s.heap a (SetTO X.prog X.w a ks) from I.hok a _ ha).1
  rw [Vals.ref1 r]
  refine sorted_setT so calm few fun s' p out c ys kept g o fresh at_ y1 y2 y3 y4 => ?_
  have nw : H p = none := I.hok.fresh fresh
  have len : ys.length ≤ ks.length := List.Nodup.length_le_of_subset y3 fun x hx => (y4 x).mp hx
  have fit : (ys.map V.str).length ≤ sizeLine := by
    rw [List.length_map, sizeLine_eq]
    omega
  have J : Inv X pins σ (upd H p (.lst (ys.map V.str))) { s with heap := s'.heap, gens := s'.gens, drawn := s'.drawn, toks := s'.toks } :=
    I.call (ch := []) (Un.laid kept fresh nw) (I.hok.laid kept fresh ⟨fit, out.toList, c, vals_of_strs y1, at_⟩) (by rw [g]; exact I.bare) (fun _ z => nomatch z)
  have e : s' = { s with heap := s'.heap, gens := s'.gens, drawn := s'.drawn, toks := s'.toks } := by
    cases s'
    cases s
    cases o
    rfl
  rw [e]
  exact ⟨.ref p, _, J, rfl, q ys _ p y2 y3 y4 (Same.new nw) nw upd_same⟩
/-- sorted(xs), texts, any number of them -/
def rSortedTA (K : PySem.W.Frag) : List V → Hp → VK → Prop := fun vs H Q => ∃ (a : Addr) (xs : List Str), vs = [.ref a] ∧ (SqL K H a (xs.map V.str) ∨ SqT K H a (xs.map V.str) ∧ xs.length < 64) ∧
  ∀ ys H' p, ys.Perm xs → sortedS ys = true → Same H H' → H p = none → H' p = some (.lst (ys.map V.str)) → Q (.ref p) H'
end
end HX

/-! Texts in lists and tuples: sorted, counted; a list extended by a tuple. -/
namespace HX
open PySem PySem.Spec PyProof.Rows L2 HA
section
variable {P : Program} {w : World} {A : Around} {E : Value → Shared → Prop} {s : Shared}
theorem sorted_seqT {a : Addr} {T : String} {o : Obj} {its : List Value} {n : Nat} {xs : List Str} {Z : Value → Shared → Prop} (kind : T = "list" ∨ T = "tuple") (ho : s.heap.get? a = some o) (hc : o.cls = .type T) (hd : o.data = .seq its.toArray n)
    (sAre : StrsAre its xs) (fit : its.length ≤ sizeLine)
    (go : ∀ (h1 h' : Heap) (p : Addr) (out : Array Value) (c : Nat) (ys : List Str), (∀ b u, s.heap.get? b = some u → h1.get? b = some u) → (∀ b u, h1.get? b = some u → h'.get? b = some u) → h1.objs.size ≤ p → h'.get? p = some (seqObj "list" out c) → StrsAre out.toList ys → ys.Perm xs → sortedS ys = true →
      Z (.ref p) { s with heap := h' }) :
    wpAny (model P w) A (call (.builtin "sorted") [.ref a]) Z E s := by
  refine Calls.call_function_entry kind_sorted plain_sorted entry_sorted (args_sorted1 _) ?_
  unfold Builtin.«sorted»
  refine wpAny_bind (m := checkCount "sorted" 1 1 _) (wpAny_pure (wpAny_bind (wpAny_collect_seq a kind ho hc hd (fun h1 kept => ?_) (by rw [List.size_toArray]; exact fit))))
  have e0 : its.toArray.toList = its := by simp
  rw [e0]
  refine wpAny_bind (wpAny_newList ?_ fit)
  have lst : (h1.push (seqObj "list" its.toArray 0)).get? h1.objs.size = some (seqObj "list" its.toArray 0) := Heap.get?_push_size _ rfl
  show wpAny _ _ _ _ _ { s with heap := h1.push (seqObj "list" its.toArray 0) }
  refine wpAny_bind (wpAny_holding (wpAny_call_entry slot_list_sort ⟨_, lst, rfl⟩ entry_list_sort
    (list_sort_treeKAny (s := { s with heap := h1.push (seqObj "list" its.toArray 0) }) strKind_oneLt lst sAre.keysOf (fun v1 v2 rest e => keyKind_strs (by rw [← e]; exact sAre)) fit fun st p so => ⟨_, rfl, ?_⟩) (args_list_sort _)))
  obtain ⟨ys, y1, y2, y3⟩ := sorted_out_str sAre p so
  obtain ⟨c, at_⟩ := sortedHeap_at (vs := its) (out := (arrOf st).map (·.2)) lst
  have old : ∀ b u, h1.get? b = some u → (sortedHeap (h1.push (seqObj "list" its.toArray 0)) h1.objs.size its ((arrOf st).map (·.2))).get? b = some u := fun b u e => by
    have bl := Heap.lt_size e
    rw [sortedHeap_old (Nat.ne_of_lt bl) (by rw [size_push']; exact Nat.lt_succ_of_lt bl)]
    exact Heap.get?_push_of_some _ e
  exact wpAny_pure ⟨_, rfl, go h1 _ h1.objs.size _ c ys kept old (Nat.le_refl _) at_ y1 y2 y3⟩
end
section
variable {X : Cx}
/-- a list or a tuple of texts -/
def SqS (K : PySem.W.Frag) (H : Hp) (a : Addr) (xs : List Str) : Prop := SqL K H a (xs.map V.str) ∨ SqT K H a (xs.map V.str)
theorem SqS.at {pins : List (Addr × Obj)} {σ : L2.St} {H : Hp} {s : Shared} {a : Addr} {xs : List Str} (I : Inv X pins σ H s) (h : SqS X.K H a xs) :
    ∃ (T : String) (o : Obj) (its : List Value) (n : Nat), (T = "list" ∨ T = "tuple") ∧ s.heap.get? a = some o ∧ o.cls = .type T ∧ o.data = .seq its.toArray n ∧ StrsAre its xs ∧ its.length ≤ sizeLine := by
  rcases h with h | h
  · obtain ⟨its, rv, ⟨o, n, ho, hc, _, hd⟩, z⟩ := I.list h
    exact ⟨"list", o, its, n, .inl rfl, ho, hc, hd, rv.strs, by rw [← rv.length]; exact z⟩
  · obtain ⟨its, rv, ⟨o, ho, hc, n, hd⟩, z⟩ := I.tuple h
    exact ⟨"tuple", o, its, n, .inr rfl, ho, hc, hd, rv.strs, by rw [← rv.length]; exact z⟩
/-- sorted(xs), texts, any number of them -/
def rSortedA (K : PySem.W.Frag) : List V → Hp → VK → Prop := fun vs H Q => ∃ (a : Addr) (xs : List Str), vs = [.ref a] ∧ SqS K H a xs ∧
  ∀ ys H' p, ys.Perm xs → sortedS ys = true → Same H H' → H p = none → H' p = some (.lst (ys.map V.str)) → Q (.ref p) H'
theorem cr_sortedA : CallR X (.builtin "sorted") (rSortedA X.K) := by
  intro pins s σ H vs us Q I r h
  obtain ⟨a, xs, rfl, hs, q⟩ := h
  obtain ⟨T, o, its, n, kind, ho, hc, hd, sAre, fit⟩ := SqS.at I hs
  rw [Vals.ref1 r]
  refine sorted_seqT kind ho hc hd sAre fit fun h1 h' p out c ys kept old fresh at_ y1 y2 y3 => ?_
  have I1 : Inv X pins σ H { s with heap := h1 } := I.kept (t' := s.toks) kept
  have nw : H p = none := I1.hok.fresh fresh
  have len : (ys.map V.str).length ≤ sizeLine := by
    rw [List.length_map, y2.length_eq, ← sAre.length]
    exact fit
  exact ⟨.ref p, upd H p (.lst (ys.map V.str)), I1.laid (t' := s.toks) old fresh ⟨len, out.toList, c, vals_of_strs y1, at_⟩, rfl, q ys _ p y2 y3 (Same.new nw) nw upd_same⟩
end
end HX
namespace HX
open PySem PySem.Spec PyProof.Rows L2 HA
/-- list.extend by a tuple, whatever its dict -/
theorem extend_meets (l : Addr) (items : Array Value) (n : Nat) (b : Addr) (more : Array Value) (n2 : Nat) (dd : Option Addr) (sl : Array (Option Value)) (free : ¬(!items.isEmpty && Builtin.List.listTooLong (items.size + more.size)) = true)
    (fit : items.size ≤ sizeLine) (fits : items.size + more.size ≤ sizeLine + 1) :
    Meets (Builtin.«list.extend» ⟨[.ref l, .ref b], []⟩) (fun _ R s => s.heap.get? l = some { cls := .type "list", dict := none, data := .seq items n, slots := #[] } ∧ s.heap.get? b = some { cls := .type "tuple", dict := dd, data := .seq more n2, slots := sl } ∧
      R (.ok (.ret Value.none)) { s with heap := s.heap.update l (Obj.mapSeq fun x => x ++ more), toks := s.toks }) :=
  .of_wp fun prog w A R s h => by
    obtain ⟨hp, g, d, tk, os⟩ := s
    obtain ⟨hl, hb, h⟩ := h
    have f1 := PySem.AutoSeq1.idx_int
    have f2 := PySem.AutoSeq1.sub_tuple_tuple
    have f3 := PySem.AutoSeq1.sub_list_list
    have f4 := PySem.AutoSeq1.sub_tuple_list
    have f5 := PySem.AutoSeq1.sub_list_tuple
    have fits' : (items ++ more).size ≤ sizeLine + 1 := by rw [Array.size_append]; exact fits
    wp_walk using (wpAny_updateSeq hl rfl (hz := fit) (_hz' := fits')), wpAny_loadPart' hl, wpAny_loadPart' hb
    exact ⟨_, rfl, h⟩
/-- a tuple made here: its object is known -/
def Pt (H : Hp) (a : Addr) (xs : List V) : Prop := ∃ o : Obj, o.cls = .type "tuple" ∧ o.dict = none ∧ H a = some (.frz o (.tup xs))
theorem Pt.seq {K : PySem.W.Frag} {H : Hp} {a : Addr} {xs : List V} (h : Pt H a xs) : SqT K H a xs := let ⟨o, _, _, e⟩ := h; .inl (.inr ⟨o, e⟩)
theorem Pt.sm {H H' : Hp} {a : Addr} {xs : List V} (e : Same H H') (h : Pt H a xs) : Pt H' a xs := let ⟨o, c, d, q⟩ := h; ⟨o, c, d, e _ _ q⟩
theorem Pt.kp {S : List Addr} {H H' : Hp} {a : Addr} {xs : List V} (e : Kp S H H') (n : a ∉ S) (h : Pt H a xs) : Pt H' a xs := let ⟨o, c, d, q⟩ := h; ⟨o, c, d, e _ _ n q⟩
section
variable {X : Cx}
theorem Pt.at {pins : List (Addr × Obj)} {σ : L2.St} {H : Hp} {s : Shared} {a : Addr} {xs : List V} (I : Inv X pins σ H s) (h : Pt H a xs) :
    ∃ (its : List Value) (n : Nat) (sl : Array (Option Value)), Vals xs its ∧ s.heap.get? a = some { cls := .type "tuple", dict := none, data := .seq its.toArray n, slots := sl } ∧ xs.length ≤ sizeLine := by
  obtain ⟨⟨oc, od, odt, os⟩, hc, hd, e⟩ := h
  obtain ⟨e1, fit, its, rv, o2, e2, _, n, dat⟩ := (show ObjOk X.prog X.w H s.heap a (.frz _ (.tup xs)) from I.hok a _ e)
  rw [e1] at e2
  cases e2
  dsimp only at hc hd dat
  subst hc hd dat
  exact ⟨its, n, os, rv, e1, fit⟩
/-- tuple(xs), xs a list -/
def rTupleF (K : PySem.W.Frag) : List V → Hp → VK → Prop := fun xs H Q => ∃ p ys, xs = [.ref p] ∧ SqL K H p ys ∧ ∀ H' l, Same H H' → H l = none → Pt H' l ys → Q (.ref l) H'
theorem call_tupleF : CallR X (.type "tuple") (rTupleF X.K) := by
  intro pins s σ H xs us Q I r h
  obtain ⟨p, ys, rfl, hs, q⟩ := h
  obtain ⟨its, rv, pl, fit⟩ := I.list hs
  rw [Vals.ref1 r]
  refine call_tuple_list pl.isList (fun h' kept => ?_) (by rw [List.size_toArray, ← rv.length]; exact fit)
  have I1 : Inv X pins σ H { s with heap := h' } := I.kept (t' := s.toks) kept
  have nw : H h'.objs.size = none := I1.hok.fresh (Nat.le_refl _)
  have new : (h'.push { cls := .type "tuple", data := .seq its.toArray }).get? h'.objs.size = some { cls := .type "tuple", data := .seq its.toArray } := Heap.get?_push_size _ rfl
  have I2 : Inv X pins σ (upd H h'.objs.size (.frz { cls := .type "tuple", data := .seq its.toArray } (.tup ys))) { s with heap := h'.push { cls := .type "tuple", data := .seq its.toArray } } :=
    I1.laid (t' := s.toks) (fun b o e => Heap.get?_push_of_some _ e) (Nat.le_refl _) ⟨new, fit, its, rv, IsTup.new _ _⟩
  exact ⟨.ref h'.objs.size, _, I2, rfl, q _ _ (Same.new nw) nw ⟨_, rfl, rfl, upd_same⟩⟩
/-- t.count(x), t a tuple of texts that was made here -/
def tCountT (to : TE) (t : TA) : TE := fun σ H Q => to σ H fun x H1 => ∃ (a : Addr) (xs : List Str), x = .ref a ∧ Pt H1 a (xs.map V.str) ∧ t σ H1 fun vs H2 => ∃ y, vs = [.str y] ∧ Pt H2 a (xs.map V.str) ∧ Q (.int (xs.count y : Nat)) H2
theorem pe_countT {o e : Expr} {apos cpos : Pos} {to : TE} {t : TA} (ho : PE X o to) (ha : PA X [e] t)
    (hbase : attributeBase o "count" X.env (eval o X.env) = eval o X.env := by rfl)
    (hfew : ((backTo cpos (starEach [e] X.env)).all (fun x => !x.1) && (backToKw cpos (keywordEach [] X.env)).all (fun x => x.1.isSome)
      && decide (([e] : List Expr).length + ([] : List Keyword).length + (if ([] : List Keyword).isEmpty then 0 else 1) < 30)) = true := by rfl)
    (hline : (apos.endLine == cpos.line) = true := by rfl) (hs : starEach [e] X.env = (false, eval e X.env) :: starEach [] X.env := by rfl) (hplain : (backTo cpos (starEach [] X.env)).any (·.1) = false := by rfl) :
    PE X (.Call (.Attribute o "count" apos) [e] [] cpos) (tCountT to t) := by
  refine ⟨fun pins s σ H Q I h => ?_⟩
  refine wpAny_Call_method_late hbase hfew hline rfl (thn (ho.run pins s σ H _ I h) fun v s1 ⟨x, H1, I1, r1, a, xs, ex, hp, q1⟩ => ?_)
  subst ex
  obtain rfl : v = Value.ref a := r1
  obtain ⟨its, n, sl, _, e1, _⟩ := hp.at I1
  refine ⟨"tuple", "tuple.count", F.plainAttrs_tuple, F.slot_tuple_count, F.type_tuple_count, ⟨_, e1, rfl⟩, fun b eb => ?_, ?_⟩
  · cases eb
    exact ⟨_, e1, rfl⟩
  have hA := ha.run cpos pins s1 σ H1 _ I1 q1
  rw [hs] at hA ⊢
  refine Calls.callWith_builtin (by show (false || (backTo cpos (starEach [] X.env)).any (·.1)) = false; rw [hplain] <;> rfl) (Calls.evalArgs_plain (thn hA fun us s2 ⟨vs, H2, I2, r2, y, ey, hp2, q2⟩ => ?_))
  subst ey
  obtain ⟨u, rfl, ru⟩ := Vals.one r2
  obtain ⟨tk, rfl⟩ := ru
  obtain ⟨jts, n2, sl2, rv, e2, _⟩ := hp2.at I2
  have sAre := rv.strs
  refine call_meets F.slot_tuple_count ⟨_, e2, rfl⟩ F.entry_tuple_count (F.args_tuple_count_2 _ _)
    (SeqAt.tuple_countAt a jts.toArray n2 none sl2 (.str y tk) (isStrOf y) ) ⟨e2, fun z hz => (eq_isStrOf y tk sAre z (by simpa using hz)).at _ _, ?_⟩
  have ec : jts.toArray.toList.countP (isStrOf y) = xs.count y := by
    have key : ∀ {us : List Value} {ys : List Str}, StrsAre us ys → us.countP (isStrOf y) = ys.count y := by
      intro us ys hh
      induction hh with
      | nil => rfl
      | cons z tz _ ih =>
        rw [List.countP_cons, List.count_cons, ih]
        rfl
    exact key sAre
  refine ⟨.int (xs.count y : Nat), H2, I2.tok _, ⟨s2.toks, ?_⟩, q2⟩
  rw [ec]
/-- xs.extend(t), t a tuple -/
def rExtendT (K : PySem.W.Frag) : V → List V → Hp → VK → Prop := fun x vs H Q => ∃ l b xs zs, x = .ref l ∧ vs = [.ref b] ∧ H l = some (.lst xs) ∧ SqT K H b zs ∧ xs.length + zs.length ≤ sizeLine ∧ Q .non (upd H l (.lst (xs ++ zs)))
theorem mt_extendT : MtM X "list.extend" (rExtendT X.K) := by
  intro pins s σ H x vs v us Q I rx rv h
  obtain ⟨l, b, xs, zs, rfl, rfl, hl, hb, fit, q⟩ := h
  cases rx
  obtain ⟨u, rfl, ru⟩ := Vals.one rv
  cases ru
  obtain ⟨_, its, n, r1, len1, e1⟩ := I.lstM hl
  obtain ⟨jts, r2, ⟨⟨oc, od, odt, os⟩, e2, hc, n2, hd⟩, _⟩ := I.tuple hb
  dsimp only at hc hd
  subst hc hd
  have len2 := r2.length
  have small : its.toArray.size + jts.toArray.size ≤ sizeLine := by
    rw [List.size_toArray, List.size_toArray]
    omega
  have free : ¬(!its.toArray.isEmpty && Builtin.List.listTooLong (its.toArray.size + jts.toArray.size)) = true := by
    rw [notLongL small, Bool.and_false]
    decide
  refine call_meets F.slot_list_extend ⟨_, e1, rfl⟩ F.entry_list_extend (F.args_list_extend_2 _ _) (extend_meets l its.toArray n b jts.toArray n2 od os free (by omega) (by omega)) ⟨e1, e2, ?_⟩
  refine ⟨.non, _, I.lset (its' := its ++ jts) hl e1 (by simp) (r1.append r2) ?_, rfl, q⟩
  rw [List.length_append]
  omega
end
end HX

/-! try with several clauses: except X as n, except (X, Y). -/
namespace HX
open PySem PySem.Spec PyProof.Rows L2 HA
theorem flying_keep {B : Heap} {l : List Env} {e : Addr} {Z : Obj → Prop} {h h' : Heap} (f : HandSPX.FlyingZ B l e Z h) (k : ∀ b o, h.get? b = some o → h'.get? b = some o) : HandSPX.FlyingZ B l e Z h' := by
  obtain ⟨f1, f2, f3, oe, vs, T, oT, ts, g1, g2, g3, g4, g5, g6, g7, g8, g9⟩ := f
  exact ⟨fun b o q => k b o (f1 b o q), f2, f3.of_keeps fun b o q _ => ⟨o, k b o q, rfl⟩, oe, vs, T, oT, ts, k _ _ g1, g2, g3, g4, g5, g6, k _ _ g7, g8, g9⟩
/-- an exception of the class cls, its dict at d, has landed in our frame -/
structure Landed (X : Cx) (pins : List (Addr × Obj)) (a : Addr) (cls : Value) (d : Option Addr) (σ : L2.St) (H : Hp) (B : Heap) (sI s : Shared) : Prop where
  inv : Inv X pins σ H sI
  under : ∀ b o, sI.heap.get? b = some o → b ∉ frs X.stack → B.get? b = some o
  up : sI.heap.UpToSlots s.heap
  fly : HandSPX.FlyingZ B (X.env :: X.outer) a (Zc cls d) s.heap
  na : H a = none
  os : s.os = sI.os
  bare : AllBare s.gens
section
variable {X : Cx} {pins : List (Addr × Obj)} {a : Addr} {cls : Value} {d : Option Addr} {σ : L2.St} {H : Hp} {B : Heap} {sI s : Shared}
theorem Landed.now (L : Landed X pins a cls d σ H B sI s) : Inv X pins σ H s := L.inv.landed L.under L.fly.1 L.up L.os L.bare
theorem Landed.slots (L : Landed X pins a cls d σ H B sI s) {h' : Heap} (f : HandSPX.FlyingZ B (X.env :: X.outer) a (Zc cls d) h') (u : s.heap.UpToSlots h') : Landed X pins a cls d σ H B sI { s with heap := h' } :=
  ⟨L.inv, L.under, L.up.trans u, f, L.na, L.os, L.bare⟩
theorem Landed.keep (L : Landed X pins a cls d σ H B sI s) {h' : Heap} {tk : Nat} (k : ∀ b o, s.heap.get? b = some o → h'.get? b = some o) : Landed X pins a cls d σ H B sI { s with heap := h', toks := tk } :=
  ⟨L.inv, L.under, L.up.trans (Heap.UpToSlots.of_keeps k), flying_keep L.fly k, L.na, L.os, L.bare⟩
/-- the error is no frame of ours -/
theorem Landed.far (L : Landed X pins a cls d σ H B sI s) (hf : X.env.frame = some X.env.locals) : ∃ oe vs, s.heap.get? a = some oe ∧ Zc cls d oe ∧ oe.data = .fields vs ∧ a ≠ X.env.locals ∧ a ∉ X.fs := by
  obtain ⟨oe, vs, he, hz, hd⟩ := L.fly.there
  have no : a ∉ frs (X.env :: X.outer) := fun m => by
    obtain ⟨_, o, e, nf⟩ := L.fly.2.2.1.mem m
    rw [he] at e
    cases e
    exact nf _ hd
  refine ⟨oe, vs, he, hz, hd, fun z => no (List.mem_filterMap.mpr ⟨X.env, List.mem_cons_self, by rw [hf, z]⟩), fun m => ?_⟩
  obtain ⟨e, he2, q⟩ := List.mem_filterMap.mp m
  exact no (List.mem_filterMap.mpr ⟨e, List.mem_cons_of_mem _ he2, q⟩)
end
/-- these clauses take what w wishes -/
def HandleOk (X : Cx) (hds : List ExceptHandler) (w : Ends → WX) : Prop :=
  ∀ (pins : List (Addr × Obj)) (a : Addr) (cls : Value) (d : Option Addr) (σ : L2.St) (H : Hp) (B : Heap) (sI s : Shared) (D : Ends), Landed X pins a cls d σ H B sI s → w D cls d σ H →
    wpAny (model X.prog X.w) X.A (handleBy (.ref a) X.env hds) (SP X pins D) X.xe s
section
variable {X : Cx}
theorem handle_nil {Wout : WX} (hs : X.stack = X.env :: X.outer) (hf : X.env.frame = some X.env.locals) (tk : Takes X Wout) : HandleOk X [] (fun _ => Wout) := by
  intro pins a cls d σ H B sI s D L w
  refine wpAny_handleBy_nil ?_
  obtain ⟨k1, k2, k3, oe, vs, T, oT, ts, he, hz, hd, h1, hr⟩ := id L.fly
  unfold PySem.passOn
  refine wpAny_bind (wpAny_field he hd h1 ?_)
  rw [if_neg (show ¬ ((Value.ref T == Value.none) = true) from by simp)]
  have out : wpAny (model X.prog X.w) X.A (setFlight (.ref a) X.env.frame) (fun _ s2 => wpAny (model X.prog X.w) X.A (throw (.ref a) : Sem Flow) (SP X pins D) X.xe s2) X.xe s := by
    rw [hf]
    exact HandSPX.setFlight_upZ L.fly fun h2 held up => wpAny_throw (tk _ _ ⟨a, B, sI, pins, σ, H, cls, d, rfl, L.inv, L.under, L.up.trans up, .inr (.inr (by rw [hs]; exact held)), L.na, L.os, L.bare, w⟩)
  first
    | exact wpAny_bind (wpAny_pure (wpAny_bind out))
    | exact wpAny_bind out
/-- behind a suite whose clause names the error: the name is gone -/
def Gone (i : Nat) (D : Ends) : Ends := { nx := fun σ H => D.nx (σ.set i none) H, rt := D.rt, bk := fun σ H => D.bk (σ.set i none) H, ct := fun σ H => D.ct (σ.set i none) H }
/-- except x as n: suite -/
def wAsX (K : PySem.W.Frag) (c : Value) (i : Nat) (ts : Addr → Value → Option Addr → TS) (r : Ends → WX) : Ends → WX := fun D cls d σ H =>
  ∃ b, PySem.W.exmOne K cls c = some b ∧ (b = true → ∀ a, H a = none → ts a cls d (Gone i D) (σ.set i (some (.ref a))) H) ∧ (b = false → r D cls d σ H)
theorem handle_as {x n : Str} {c : Value} {i : Nat} {ts : Addr → Value → Option Addr → TS} {b0 : Stmt} {suite : List Stmt} {np pos : Pos} {hds : List ExceptHandler} {r : Ends → WX}
    (hf : X.env.frame = some X.env.locals) (hN : X.N.Nodup) (hi : X.N[i]? = some n) (hl : X.env.kindOf n = some .local) (hc : Names X x c)
    (hsu : ∀ (a : Addr) (oe : Obj) (cls : Value) (d : Option Addr) (pn : List (Addr × Obj)), Zc cls d oe → (∃ vs, oe.data = .fields vs) → PSs (X.suite a ((a, oe) :: pn)) (b0 :: suite) (ts a cls d)) (hr : HandleOk X hds r) :
    HandleOk X (.ExceptHandler (some (.Name x np)) (some n) (b0 :: suite) pos :: hds) (wAsX X.K c i ts r) := by
  intro pins a cls d σ H B sI s D L w
  obtain ⟨b, hb, yes, no⟩ := w
  obtain ⟨oe, vs, he, hz, hd, nL, nF⟩ := L.far hf
  have J := L.now
  have ok := J.ok
  have S := J.suite he hd L.na nL nF
  refine wpAny_handleBy_cons (codeAny_handlers_test ?_) (by intro q; cases q)
  have LT : PySem.W.Looks (model X.prog X.w) s.heap (typeOf (.ref a)) cls := fun A Q E s2 k q => wpAny_typeOf_ref (k _ _ he) (by rw [hz.1]; exact q)
  have LM := PySem.W.exm_one (M := model X.prog X.w) J.kIn LT hb
  have test : ∀ {Q : Value → Shared → Prop} {E : Value → Shared → Prop}, Q c s → wpAny (model X.prog X.w) (X.A.mark (some (.ref a))) (eval (.Name x np) X.env) Q E s := fun {Q E} q => by
    obtain ⟨hg, hdbg, hm | ⟨hm, hv, hnn⟩⟩ := hc
    · exact ld_glob (X := X.suite a ((a, oe) :: (X.pn ++ pins))) S hg hm q hdbg
    · exact ld_blt (X := X.suite a ((a, oe) :: (X.pn ++ pins))) S hg hm hv q hnn hdbg
  refine test (LM.here ?_)
  cases b with
  | false => exact hr pins a cls d σ H B sI s D L (no rfl)
  | true =>
    refine codeAny_handlers_suite_as (HandSPX.lands_againZ L.fly fun h2 fly2 up2 => ?_)
    have L2' := L.slots fly2 up2
    obtain ⟨oe2, vs2, he2, hz2, hd2, _, _⟩ := L2'.far hf
    have S2 := L2'.now.suite he2 hd2 L.na nL nF
    refine store_ok (X := X.suite a ((a, oe2) :: (X.pn ++ pins))) (v := .ref a) S2 hN hi (.inl hl) rfl (fun s3 S3 => ?_) (.inr hl)
    refine wpAny_mono ((hsu a oe2 cls d (X.pn ++ pins) hz2 ⟨_, hd2⟩).run [] s3 _ H _ S3 (yes rfl a L.na)) (fun f s4 hsp => ?_) (fun _ _ z => False.elim z)
    have gone : ∀ {σ4 : L2.St} {H4 : Hp} {Q : Shared → Prop}, Inv (X.suite a ((a, oe2) :: (X.pn ++ pins))) [] σ4 H4 s4 → (∀ s5, Inv X pins (σ4.set i none) H4 s5 → Q s5) →
        wpAny (model X.prog X.w) X.A (do bindName X.env n .none; unbindBehindTheSuite X.env n pos) (fun _ s5 => Q s5) X.xe s4 := fun {σ4 H4 Q} S4 q => gone_ok (S4.unsuite ok) hN hi hl q
    match f, hsp with
    | .next, ⟨σ4, H4, S4, q4⟩ => exact gone S4 fun s5 J5 => ⟨_, _, J5, q4⟩
    | .brk, ⟨σ4, H4, S4, q4⟩ => exact gone S4 fun s5 J5 => ⟨_, _, J5, q4⟩
    | .cont, ⟨σ4, H4, S4, q4⟩ => exact gone S4 fun s5 J5 => ⟨_, _, J5, q4⟩
    | .ret u, ⟨v4, σ4, H4, S4, r4, q4⟩ => exact gone S4 fun s5 J5 => ⟨_, _, _, J5, r4, q4⟩
/-- except (x, y): suite -/
def wTwo (K : PySem.W.Frag) (c1 c2 : Value) (ts : Addr → Value → Option Addr → TS) (r : Ends → WX) : Ends → WX := fun D cls d σ H =>
  ∃ b, PySem.W.exmAny K cls [c1, c2] = some b ∧ (b = true → ∀ a, H a = none → ts a cls d D σ H) ∧ (b = false → r D cls d σ H)
theorem handle_two {x1 x2 : Str} {c1 c2 : Value} {ts : Addr → Value → Option Addr → TS} {b0 : Stmt} {suite : List Stmt} {k : Nat} {p1 p2 pt pos : Pos} {hds : List ExceptHandler} {r : Ends → WX}
    (hf : X.env.frame = some X.env.locals) (hc1 : Names X x1 c1) (hc2 : Names X x2 c2)
    (hsu : ∀ (a : Addr) (oe : Obj) (cls : Value) (d : Option Addr) (pn : List (Addr × Obj)), Zc cls d oe → (∃ vs, oe.data = .fields vs) → PSs (X.suite a ((a, oe) :: pn)) (b0 :: suite) (ts a cls d)) (hr : HandleOk X hds r) :
    HandleOk X (.ExceptHandler (some (.Tuple [.Name x1 p1, .Name x2 p2] k pt)) none (b0 :: suite) pos :: hds) (wTwo X.K c1 c2 ts r) := by
  intro pins a cls d σ H B sI s D L w
  obtain ⟨b, hb, yes, no⟩ := w
  obtain ⟨oe, vs, he, hz, hd, nL, nF⟩ := L.far hf
  have J := L.now
  have ok := J.ok
  have S := J.suite he hd L.na nL nF
  refine wpAny_handleBy_cons (codeAny_handlers_test ?_) (by intro q; cases q)
  have test : ∀ {x : Str} {c : Value} {np : Pos} {Q : Value → Shared → Prop} {E : Value → Shared → Prop}, Names X x c → Q c s → wpAny (model X.prog X.w) (X.A.mark (some (.ref a))) (eval (.Name x np) X.env) Q E s := fun {x c np Q E} hc q => by
    obtain ⟨hg, hdbg, hm | ⟨hm, hv, hnn⟩⟩ := hc
    · exact ld_glob (X := X.suite a ((a, oe) :: (X.pn ++ pins))) S hg hm q hdbg
    · exact ld_blt (X := X.suite a ((a, oe) :: (X.pn ++ pins))) S hg hm hv q hnn hdbg
  refine wpAny_Tuple_spliced (Calls.spliced_cons (test hc1 (Calls.spliced_cons (test hc2 (Calls.spliced_nil ?_)))))
  refine ⟨by rw [sizeLine_eq]; show 2 ≤ 16777216; decide, ?_⟩
  have L' : Landed X pins a cls d σ H B sI { s with heap := s.heap.push { cls := .type "tuple", data := .seq [c1, c2].toArray } } := L.keep fun b o q => Heap.get?_push_of_some _ q
  obtain ⟨oe', vs', he', hz', hd', _, _⟩ := L'.far hf
  have LT : PySem.W.Looks (model X.prog X.w) (s.heap.push { cls := .type "tuple", data := .seq [c1, c2].toArray }) (typeOf (.ref a)) cls := fun A Q E s2 k q => wpAny_typeOf_ref (k _ _ he') (by rw [hz'.1]; exact q)
  have LM := PySem.W.exm_tup2 (M := model X.prog X.w) (tp := s.heap.objs.size) L'.now.kIn LT (Heap.get?_push_size _ rfl) hb
  refine LM.here ?_
  cases b with
  | false => exact hr pins a cls d σ H B sI _ D L' (no rfl)
  | true =>
    refine codeAny_handlers_suite (HandSPX.lands_againZ L'.fly fun h2 fly2 up2 => ?_)
    have L2' := L'.slots fly2 up2
    obtain ⟨oe2, vs2, he2, hz2, hd2, _, _⟩ := L2'.far hf
    have S2 := L2'.now.suite he2 hd2 L.na nL nF
    refine wpAny_mono ((hsu a oe2 cls d (X.pn ++ pins) hz2 ⟨_, hd2⟩).run [] _ _ H _ S2 (yes rfl a L.na)) (fun f s4 hsp => ?_) (fun _ _ z => False.elim z)
    match f, hsp with
    | .next, ⟨σ4, H4, S4, q4⟩ => exact ⟨_, _, S4.unsuite ok, q4⟩
    | .brk, ⟨σ4, H4, S4, q4⟩ => exact ⟨_, _, S4.unsuite ok, q4⟩
    | .cont, ⟨σ4, H4, S4, q4⟩ => exact ⟨_, _, S4.unsuite ok, q4⟩
    | .ret u, ⟨v4, σ4, H4, S4, r4, q4⟩ => exact ⟨_, _, _, S4.unsuite ok, r4, q4⟩
/-- try: body, with such clauses -/
theorem ps_tryX {body : List Stmt} {h0 : ExceptHandler} {hds : List ExceptHandler} {pos : Pos} {tb : WX → TS} {w : Ends → WX} (hs : X.stack = X.env :: X.outer) (hf : X.env.frame = some X.env.locals)
    (hb : ∀ (W : WX) (pn : List (Addr × Obj)) (xe : Value → Shared → Prop), Takes (X.tr pn xe) W → PassesOwn (model X.prog X.w) X.A X.env xe → PSs (X.tr pn xe) body (tb W)) (hh : HandleOk X (h0 :: hds) w) :
    PS X (.Try body (h0 :: hds) [] [] pos) (fun D σ H => tb (w D) D σ H) := by
  refine ⟨fun pins s σ H D I h => ?_⟩
  have ok := I.ok
  have frames : X.A.frames = some (X.env :: X.outer) := by rw [ok.frames, hs]
  refine wpAny_Try_except (wpAny_mono ((hb (w D) (X.pn ++ pins) (fun e s1 => wpAny (model X.prog X.w) X.A (noteFrame e X.env) (fun _ s2 => wpAny (model X.prog X.w) X.A (setFlight e none)
    (fun _ s3 => wpAny (model X.prog X.w) X.A (handleBy e X.env (h0 :: hds)) (SP X pins D) X.xe s3) X.xe s2) X.xe s1) (fun u s1 xx => ?_) PassesOwn.looking).run [] s σ H D (I.toTry _) h) (fun f s1 hsp => ?_) fun e s1 he => he)
  · obtain ⟨a, B, sI, pins', σ', H', cls, d, rfl, J', under, up, sky, na, os, bare, want⟩ := xx
    refine Sky.land Zc.steady frames hf (by rw [← hs]; exact sky) fun h2 fly up2 => ?_
    exact hh pins a cls d σ' H' B sI { s1 with heap := h2 } D ⟨J'.ofTry ok, under, up.trans up2, fly, na, os, bare⟩ want
  · match f, hsp with
    | .next, ⟨σ', H', J', q⟩ => exact wpAny_execs_nil ⟨σ', H', J'.ofTry ok, q⟩
    | .brk, ⟨σ', H', J', q⟩ => exact ⟨σ', H', J'.ofTry ok, q⟩
    | .cont, ⟨σ', H', J', q⟩ => exact ⟨σ', H', J'.ofTry ok, q⟩
    | .ret u, ⟨v, σ', H', J', r, q⟩ => exact ⟨v, σ', H', J'.ofTry ok, r, q⟩
end
end HX

/-! Errors of classes over an own base class: made, raised, asked. -/
namespace HX
open PySem PySem.Spec PyProof.Rows L2 HA
/-- the own base class at C: its __init__ is ValueError's -/
structure BaseC (K : PySem.W.Frag) (C : Addr) (mc : Value) : Prop where
  rd : PySem.W.readsIn K C mc = true
  ga : PySem.W.specialIn K (.ref C) "__getattribute__" = some (some (.builtin "type.__getattribute__"))
  at_ : PySem.W.findCls K (.ref C) mc "__init__" = some (.val (.builtin "ValueError.__init__"))
  kp : PySem.W.keepIn K (.ref C) = true
section
variable {X : Cx} {e : Expr} {es : List Expr} {ta : TA} {p1 p2 pos : Pos} {x : Str}
/-- Base.__init__(self, ..) -/
theorem pe_bsinit {C : Addr} {mc : Value} {pl : Sem Bool} (T : BaseC X.K C mc) (hg : Gl X x) (hm : X.mg x = some (.ref C)) (ha : PA X (e :: es) ta)
    (hc : eval (.Call (.Attribute (.Name x p1) "__init__" p2) (e :: es) [] pos) X.env = (do
      let ov ← eval (.Name x p1) X.env
      standAt p2.atName
      let (f, first) ← holding [ov] (getMethod ov "__init__" pl)
      callWith pos f first (backTo pos (starEach (e :: es) X.env)) (backToKw pos (keywordEach [] X.env))) := by rfl) (hdb : (x == ("__debug__" : Str)) = false := by decide)
    (he : starEach (e :: es) X.env = (false, eval e X.env) :: starEach es X.env := by rfl) (hpl : (backTo pos (starEach es X.env)).any (·.1) = false := by rfl) :
    PE X (.Call (.Attribute (.Name x p1) "__init__" p2) (e :: es) [] pos) (tVeI X.K ta) := by
  refine ⟨fun pins s σ H Q I h => ?_⟩
  refine PySem.W.methodCall_KW (ld_glob I hg hm ?_ hdb) hc
  refine PySem.W.method_cls I.kIn T.ga (PySem.W.cls_value I.kIn T.rd T.at_ rfl ?_)
  show wpAny _ _ (callWith pos (Value.builtin "ValueError.__init__") [] (backTo pos (starEach (e :: es) X.env)) []) _ _ _
  refine PyProof.Rows.callWith_method1 (thn (ha.run pos pins _ σ H _ (I.tok _) h) fun us s1 ⟨vs, H1, I1, r1, a, C2, ws, ev, hl, T2, ea, q⟩ => ?_) he hpl
  subst ev
  cases r1 with
  | @cons _ u0 _ ur ra rw' =>
    obtain rfl : u0 = Value.ref a := ra
    have len : ur.length ≤ sizeLine := by
      rw [← Paired.length rw', sizeLine_eq]
      omega
    exact oinit_ok T2 I1 ea len fun s' J => ⟨.non, H1, J, rfl, q⟩
end
/-- what __init__ of such a class does -/
def spErrInit (C : Addr) (fld : Str) : Sp := fun vs H Q _ => ∃ (a : Addr) (v : V), vs = [.ref a, v] ∧ H a = some (exo a C none) ∧
  ∀ d, H d = none → d ≠ a → Q .non (upd (upd H d (exd d [(fld, v)])) a (exo a C (some d)))
/-- a reading, closed upwards -/
def tCl (te : TE) : TE := fun σ H Q => ∃ Q0 : VK, te σ H Q0 ∧ ∀ v H1, Q0 v H1 → Q v H1
theorem pe_cl {X : Cx} {e : Expr} {te : TE} (h : PE X e te) : PE X e (tCl te) := ⟨fun pins s σ H Q I ⟨Q0, h0, im⟩ => wpAny_mono (h.run pins s σ H Q0 I h0) (fun _ _ ⟨v, H1, I1, r, q⟩ => ⟨v, H1, I1, r, im v H1 q⟩) fun _ _ z => z⟩
/-- C(e): raised, its one field is told -/
def tErr (C : Addr) (fld : Str) (te : TE) : L2.St → Hp → XK → Prop := fun σ H Q => te σ H fun v H1 => ∀ H' d, Same H1 H' → H1 d = none → H' d = some (.xd [(fld, v)]) → Q (.ref C) (some d) H'
theorem pmk_err {X : Cx} {x fld : Str} {C fI : Addr} {k : Nat} {fd : FuncData} {e : Expr} {te : TE} {p pos : Pos} (T : OexC X.K C) (iC : PySem.W.findIn X.K (.ref C) "__init__" = some (some (.ref fI))) (tI : PySem.W.typeIn X.K (.ref fI) = some (.type "function"))
    (F : FnOk X.prog X.w X.K X.mg X.base CX0 k fI fd ["self", fld] (spErrInit C fld)) (hr : Room (k + 1) X.A) (hb : Binds X.K fd ["self", fld] []) (hg : Gl X x) (hm : X.mg x = some (.ref C)) (he : PE X e te)
    (hdb : (x == ("__debug__" : Str)) = false := by decide) (hs : starEach [e] X.env = (false, eval e X.env) :: starEach [] X.env := by rfl) (hpl : (backTo pos (starEach [] X.env)).any (·.1) = false := by rfl) :
    PMk X (.Call (.Name x p) [e] [] pos) (tErr C fld te) := by
  intro pins s σ H Q I h
  refine pmk_oex T iC tI F hr hb .nil pass0 hg hm (pa_cons (pe_cl he) pa_nil hs) hdb hs hpl pins s σ H Q I ?_
  refine ⟨_, h, fun v H1 q => ⟨(by show 1 ≤ 1000; decide), fun a na => ⟨a, v, rfl, upd_same, fun d nd da => ⟨rfl, d, [(fld, v)], upd_same, ?_, ?_, ?_⟩⟩⟩⟩
  · rw [upd_ne da, upd_same]
  · rw [upd_ne da] at nd
    exact nd
  · have n1 : H1 d = none := by
      rw [upd_ne da] at nd
      exact nd
    refine q _ d (fun b o e => ?_) n1 upd_same
    have bd : b ≠ d := ne_of_none e n1
    have ba : b ≠ a := ne_of_none e na
    rw [upd_ne bd, del_ne ba, upd_ne ba, upd_ne bd, upd_ne ba]
    exact e
/-- raise C(e) -/
def tRaiseErr (C : Addr) (fld : Str) (W : WX) (te : TE) : TS := fun _ σ H => tErr C fld te σ H fun cls d H' => W cls d σ H'
theorem ps_raiseErr {X : Cx} {x fld : Str} {C fI : Addr} {k : Nat} {fd : FuncData} {e : Expr} {te : TE} {W : WX} {p pos pos2 : Pos} (calm : X.calm = true) (T : OexC X.K C) (iC : PySem.W.findIn X.K (.ref C) "__init__" = some (some (.ref fI)))
    (tI : PySem.W.typeIn X.K (.ref fI) = some (.type "function")) (F : FnOk X.prog X.w X.K X.mg X.base CX0 k fI fd ["self", fld] (spErrInit C fld)) (hr : Room (k + 1) X.A) (hb : Binds X.K fd ["self", fld] []) (hg : Gl X x) (hm : X.mg x = some (.ref C)) (tk : Takes X W) (he : PE X e te)
    (hdb : (x == ("__debug__" : Str)) = false := by decide) (hs : starEach [e] X.env = (false, eval e X.env) :: starEach [] X.env := by rfl) (hpl : (backTo pos (starEach [] X.env)).any (·.1) = false := by rfl) :
    PS X (.Raise (some (.Call (.Name x p) [e] [] pos)) none pos2) (tRaiseErr C fld W te) := ps_raise calm tk (pmk_err T iC tI F hr hb hg hm he hdb hs hpl)
/-- what is never reached needs no rule -/
theorem ps_never {X : Cx} {st : Stmt} : PS X st (fun _ _ _ => False) := ⟨fun _ _ _ _ _ _ h => h.elim⟩
end HX

/-! isinstance of a caught error that has fields. -/
namespace PySem.W
open PySem PySem.Spec PySem.Calls PyProof.Rows
section
variable {prog : Program} {w : World} {A : Around} {E : Value → Shared → Prop} {s : Shared} {K : Frag} {x D : Addr} {ox : Obj} {od : Option Obj}
theorem found_data {C : Addr} {name : Str} {a g : Value} (c : (clsIn K C).isSome = true) (at_ : findIn K (.ref C) name = some (some a)) (gets : specialIn K a "__get__" = some (some g)) (takes : takesIn K a = some true) : findObj K C od name = some (.bind g a) := by
  cases e : clsIn K C with
  | none => rw [e] at c; cases c
  | some cd =>
    unfold findObj
    rw [e, Option.bind_some, at_, Option.bind_some]
    simp [gets, takes]
/-- the class of an error, asked by name -/
theorem err_class {Q : Option Value → Shared → Prop} (T : L2.ExcC K D) (X : K.In s.heap) (I : InstAt s.heap x ox D od) (q : Q (some (.ref D)) { s with toks := s.toks + 1 }) : wpAny (model prog w) A (getAttr? (.ref x) "__class__") Q E s := by
  obtain ⟨t1, t2, t3, t4, t5, t6, t7, t8⟩ := T
  have some_cls : (clsIn K D).isSome = true := by
    obtain ⟨cd, hc, _⟩ := any_some t4
    rw [hc]
    rfl
  obtain ⟨hp, g, d, tk, os⟩ := s
  have ty := I.type (M := model prog w)
  have by_ga := looks_findIn (M := model prog w) X t1
  have no_gt := looks_findIn (M := model prog w) X t2
  have it := looks_find (M := model prog w) X I (found_data (od := od) some_cls t5 t6 t7)
  have exc : Looks (model prog w) hp (isInstance (.ref x) (.type "BaseException")) true := ty.andThen (looks_subIn X t3)
  have e1 : (Value.builtin "BaseException.__getattribute__" == Value.builtin "object.__getattribute__") = false := by decide +kernel
  have e2 : (onTheHeap (Value.ref D) && Value.builtin "BaseException.__getattribute__" == Value.builtin "object.__getattribute__") = false := by rw [e1]; rfl
  unfold getAttr? getAttrBy? getAttrBy
  refine wpAny_bind (wpAny_mkText (wpAny_bind (wpAny_attempt (wpAny_holding (wpAny_bind (ty.at (wpAny_bind (by_ga.at ?_))))))))
  dsimp only
  rw [if_neg (show ¬ (onTheHeap (Value.ref D) && Value.builtin "BaseException.__getattribute__" == Value.builtin "object.__getattribute__") = true from by rw [e2]; decide)]
  unfold getAttrByItsOwn hookBefore
  refine wpAny_bind ?_
  rw [if_pos (show onTheHeap (Value.ref D) = true from rfl)]
  refine no_gt.at (wpAny_bind (wpAny_attempt (wpAny_holding ?_)))
  unfold callGetattribute
  rw [if_neg (show ¬ (false && onTheHeap (Value.builtin "BaseException.__getattribute__")) = true from by decide)]
  unfold boundAndCalled
  rw [PySem.F.excAttr_ValueError.ga.bind (.ref x)]
  refine wpAny_bind (wpAny_pure (show wpAny _ _ (call (.builtin "BaseException.__getattribute__") [.ref x, .str "__class__" tk]) _ _ _ from ?_))
  refine wpAny_call (codeAny_call_builtin PySem.F.excAttr_ValueError.ga.plain PySem.F.entry_bexc_ga ?_)
  refine @check_slot (model prog w) _ _ ⟨hp, g, d, tk + 1, os⟩ "BaseException.__getattribute__" "BaseException" "__getattribute__" (.ref x) [.str "__class__" tk] [] _ (by decide +kernel) (by decide +kernel) exc
    (PySem.F.args_bexc_ga (.ref x) (.str "__class__" tk)) ?_
  unfold Builtin.«object.__getattribute__»
  refine wpAny_bind (wpAny_of_eq (a := ((Value.ref x : Value), [Value.str "__class__" tk])) (by first | rfl | (simp only [slotArgs]; rfl)) (wpAny_bind (wpAny_pure (wpAny_bind (ty.at (wpAny_bind (it.at ?_)))))))
  show wpAny _ _ (holding [Value.builtin "object.__class__"] (call (.builtin "getset_descriptor.__get__") [.builtin "object.__class__", .ref x, .ref D]) >>= ret) _ _ _
  refine wpAny_bind (wpAny_holding (wpAny_call (class_get (s := ⟨hp, g, d, tk + 1, os⟩) (ox := ox) (od := od) X I t8 (wpAny_pure (show wpAny _ _ (handedOut (.ref D)) _ _ _ from ?_)))))
  rw [handedOut_of (v := .ref D) rfl]
  first
    | exact wpAny_pure (wpAny_pure q)
    | exact wpAny_pure q
    | exact wpAny_pure (wpAny_bind (wpAny_pure (wpAny_pure q)))
theorem err_kit (T : L2.ExcC K D) : KitX K (.ref x) (.ref D) (fun h => InstAt h x ox D od) where
  ty := fun _ _ _ I => I.type
  it := fun _ _ X _ => by
    obtain ⟨cd, hc, _⟩ := any_some T.hd
    unfold clsIn at hc
    split at hc
    · rename_i c2 d2 cd2 sl2 ho
      intro A2 Q2 E2 s2 k q
      unfold isType loadHead
      exact wpAny_bind (wpAny_loadPart (k _ _ (X _ _ ho)) (wpAny_pure q))
    · cases hc
  ne := fun h tp dd its n sl X htp => by
    obtain ⟨cd, hc, _⟩ := any_some T.hd
    refine Bool.eq_false_iff.mpr fun q => ?_
    obtain rfl : D = tp := Value.ref.inj (beq_iff_eq.mp q)
    unfold clsIn at hc
    split at hc
    · rename_i c2 d2 cd2 sl2 ho
      have z := (X _ _ ho).symm.trans htp
      cases z
    · cases hc
  ca := fun X I k => err_class T X I k
end
end PySem.W
namespace HX
open PySem PySem.Spec PyProof.Rows L2 HA
/-- isinstance(e, c), e the error that the suite holds, its dict at d -/
def rIsErr (K : PySem.W.Frag) (D a dd : Addr) : List V → Hp → VK → Prop := fun xs H Q => ∃ (c : V) (cv : Value) (b : Bool) (fs : List (Str × V)), xs = [.ref a, c] ∧ (∀ u, RelV c u → u = cv) ∧ H dd = some (.xd fs) ∧ PySem.W.kitOne K (.ref D) cv = some b ∧ Q (.bl b) H
theorem call_isErr {X : Cx} {a D dd : Addr} {oe : Obj} {pn : List (Addr × Obj)} (C : ExcC X.K D) (hz : Zc (.ref D) (some dd) oe) (hf : ∃ vs, oe.data = .fields vs) : CallR (X.suite a ((a, oe) :: pn)) (.builtin "isinstance") (rIsErr X.K D a dd) := by
  intro pins s σ H xs us Q I r h
  obtain ⟨c, cv, b, fs, rfl, hcv, hd, e, q⟩ := h
  cases r with
  | cons rx rr =>
    cases rr with
    | cons rt rr =>
      cases rr
      cases rx
      obtain rfl := hcv _ rt
      obtain ⟨here, _⟩ := I.pin (a, oe) (List.mem_append.mpr (.inl List.mem_cons_self))
      obtain ⟨vs, hv⟩ := hf
      obtain ⟨mA, hns, _⟩ : ObjOk X.prog X.w H s.heap dd (.xd fs) := I.hok dd _ hd
      obtain ⟨od, ho, _⟩ := lookIn_ns hns
      have J : PySem.W.InstAt s.heap a oe D (some od) := ⟨here, hz.1, by unfold PySem.W.notCls; rw [hv] <;> rfl, by rw [hz.2]; exact ho⟩
      exact PySem.W.kia_one (PySem.W.err_kit C) I.kIn J e (fun z => nomatch z) fun tk => ⟨.bl b, H, I.kept (t' := tk) fun _ _ z => z, rfl, q⟩
end HX

/-! Names: a small letter, then small letters and digits, twelve signs at most. -/
namespace HA
open PySem PySem.Spec PyProof.Rows L2
def isLc (c : Nat) : Bool := decide (97 ≤ c) && decide (c ≤ 122)
def isLD (c : Nat) : Bool := isLc c || (decide (48 ≤ c) && decide (c ≤ 57))
theorem isLD_of {c : Nat} (h : isLc c = true) : isLD c = true := by unfold isLD; rw [h]; rfl
/-- the signs of a text -/
abbrev tl (x : Str) : List Nat := x.cps.toList
theorem tl_len (x : Str) : (tl x).length = x.length := Array.length_toList
theorem tl_app (x y : Str) : tl (x ++ y) = tl x ++ tl y := by
  show (x.cps ++ y.cps).toList = _
  rw [Array.toList_append]
theorem tl_inj {x y : Str} (h : tl x = tl y) : x = y := TL.ext_tl h
theorem tl_one (c : Nat) : tl ⟨#[c]⟩ = [c] := rfl
theorem tl_to (z : Str) (k : Nat) : tl (cutS z none (some (k : Int))) = (tl z).take k := by
  unfold cutS
  show (List.take _ _).toArray.toList = _
  rw [HT.sIx_nat, HT.sIx_none, List.drop_zero, Nat.sub_zero, List.toList_toArray]
  by_cases h : k ≤ z.length
  · rw [Nat.min_eq_left h]
  · rw [Nat.min_eq_right (by omega), List.take_of_length_le (by rw [tl_len] <;> omega), List.take_of_length_le (by rw [tl_len] <;> omega)]
theorem tl_from (z : Str) (k : Nat) : tl (cutS z (some (k : Int)) none) = (tl z).drop k := by
  unfold cutS
  show (List.take _ _).toArray.toList = _
  rw [HT.sIx_nat, HT.sIx_none, List.toList_toArray]
  by_cases h : k ≤ z.length
  · rw [Nat.min_eq_left h, List.take_of_length_le]
    rw [List.length_drop, tl_len] <;> omega
  · rw [Nat.min_eq_right (by omega), Nat.sub_self, List.take_zero, List.drop_eq_nil_of_le (by rw [tl_len] <;> omega)]
def NameOk (x : Str) : Prop := ∃ c r, tl x = c :: r ∧ isLc c = true ∧ (∀ d ∈ r, isLD d = true) ∧ r.length ≤ 11
theorem NameOk.len {x : Str} (h : NameOk x) : 1 ≤ x.length ∧ x.length ≤ 12 := by
  obtain ⟨c, r, e, _, _, l⟩ := h
  rw [← tl_len, e, List.length_cons]
  omega
theorem NameOk.all {x : Str} (h : NameOk x) : ∀ d ∈ tl x, isLD d = true := by
  obtain ⟨c, r, e, h1, h2, _⟩ := h
  rw [e]
  intro d hd
  rcases List.mem_cons.mp hd with rfl | hd
  · exact isLD_of h1
  · exact h2 d hd
def SIGNS : Str := "abcdefghijklmnopqrstuvwxyz0123456789"
theorem signs_len : SIGNS.length = 36 := by decide +kernel
theorem signs_at : ∀ d : Nat, d < 36 → ((tl SIGNS)[d]?.map isLD = some true ∧ (d < 26 → (tl SIGNS)[d]?.map isLc = some true)) := by decide +kernel
theorem sign_at {d : Int} (h0 : 0 ≤ d) (h1 : d < 36) : ∃ c, atI (tl SIGNS) d = some c ∧ isLD c = true ∧ (d < 26 → isLc c = true) := by
  obtain ⟨n, rfl⟩ := Int.eq_ofNat_of_zero_le h0
  obtain ⟨a, b⟩ := signs_at n (by omega)
  cases h : (tl SIGNS)[n]? with
  | none => rw [h] at a; cases a
  | some c =>
    rw [h] at a b
    exact ⟨c, atI_nat h, Option.some.inj a, fun hd => Option.some.inj (b (by omega))⟩
/-- one sign of a name exchanged, cut to twelve -/
theorem NameOk.swap {x : Str} {k c : Nat} (h : NameOk x) (hc : isLD c = true) :
    NameOk (cutS (cutS x none (some ((k + 1 : Nat) : Int)) ++ ⟨#[c]⟩ ++ cutS x (some ((k + 2 : Nat) : Int)) none) none (some ((12 : Nat) : Int))) := by
  obtain ⟨a, r, e, h1, h2, h3⟩ := h
  refine ⟨a, (r.take k ++ [c] ++ r.drop (k + 1)).take 11, ?_, h1, fun d hd => ?_, by rw [List.length_take]; omega⟩
  · rw [tl_to, tl_app, tl_app, tl_to, tl_from, e, tl_one]
    simp
  · have hd := List.mem_of_mem_take hd
    rcases List.mem_append.mp hd with hd | hd
    · rcases List.mem_append.mp hd with hd | hd
      · exact h2 d (List.mem_of_mem_take hd)
      · rw [List.mem_singleton.mp hd]; exact hc
    · exact h2 d (List.mem_of_mem_drop hd)
/-- the spare names -/
def spare (k : Nat) : Str := ("spare" : Str) ++ Str.ofString (toString ((k : Nat) : Int))
theorem tl_spare (k : Nat) : tl (spare k) = [115, 112, 97, 114, 101] ++ TL.numL k := by
  unfold spare
  rw [tl_app, show tl ("spare" : Str) = [115, 112, 97, 114, 101] by decide +kernel]
  exact congrArg _ (TL.tl_num k)
theorem spare_inj {i j : Nat} (h : spare i = spare j) : i = j := by
  have e : tl (spare i) = tl (spare j) := by rw [h]
  rw [tl_spare, tl_spare] at e
  exact TL.numL_inj (List.append_cancel_left e)
theorem spare_ok {k : Nat} (h : k < 10 ^ 7) : NameOk (spare k) := by
  refine ⟨115, [112, 97, 114, 101] ++ TL.numL k, by rw [tl_spare]; rfl, by decide, fun d hd => ?_, ?_⟩
  · rcases List.mem_append.mp hd with hd | hd
    · exact (by decide : ∀ d ∈ [112, 97, 114, 101], isLD d = true) d hd
    · have r : 48 ≤ d ∧ d ≤ 57 := TL.numL_digits k d hd
      unfold isLD
      rw [decide_eq_true r.1, decide_eq_true r.2]
      simp
  · have := TL.numL_len (n := k) (k := 7) (by decide) h
    rw [List.length_append]
    show 4 + _ ≤ 11
    omega
theorem pigeon {α : Type} [DecidableEq α] : ∀ {l t : List α}, l.Nodup → (∀ x ∈ l, x ∈ t) → l.length ≤ t.length
  | [], _, _, _ => Nat.zero_le _
  | x :: l, t, nd, h => by
    rw [List.nodup_cons] at nd
    have hx := h x (.head _)
    have := pigeon (l := l) (t := t.erase x) nd.2 fun y hy => by
      have hy' := h y (.tail _ hy)
      have ne : y ≠ x := fun e => nd.1 (e ▸ hy)
      exact (List.mem_erase_of_ne ne).mpr hy'
    rw [List.length_erase_of_mem hx] at this
    have := List.length_pos_of_mem hx
    rw [List.length_cons]
    omega
theorem spare_free {names : List Str} (h : ∀ j, j < names.length + 1 → spare j ∈ names) : False := by
  have nd : ((List.range (names.length + 1)).map spare).Nodup := by
    rw [List.Nodup, List.pairwise_map]
    exact (List.nodup_range).imp fun hne e => hne (spare_inj e)
  have := pigeon nd fun x hx => by
    obtain ⟨j, hj, rfl⟩ := List.mem_map.mp hx
    exact h j (List.mem_range.mp hj)
  rw [List.length_map, List.length_range] at this
  omega
/-- the search for a name that is not taken, after i turns -/
def Seek (names : List Str) (i : Nat) (x : Str) : Prop := NameOk x ∧ (x ∉ names ∨ i = 0 ∨ ∃ i', i = i' + 1 ∧ x = spare i' ∧ ∀ j, j < i' → spare j ∈ names)
theorem Seek.start {names : List Str} {x : Str} (h : NameOk x) : Seek names 0 x := ⟨h, .inr (.inl rfl)⟩
theorem Seek.keep {names : List Str} {i : Nat} {x : Str} (h : Seek names i x) (n : x ∉ names) : Seek names (i + 1) x := ⟨h.1, .inl n⟩
theorem Seek.next {names : List Str} {i : Nat} {x : Str} (h : Seek names i x) (m : x ∈ names) (hi : i < 10 ^ 7) : Seek names (i + 1) (spare i) := by
  refine ⟨spare_ok hi, .inr (.inr ⟨i, rfl, rfl, fun j hj => ?_⟩)⟩
  rcases h.2 with n | rfl | ⟨i', rfl, rfl, k⟩
  · exact absurd m n
  · omega
  · by_cases e : j = i'
    · rw [e]; exact m
    · exact k j (by omega)
theorem Seek.done {names : List Str} {x : Str} (h : Seek names (names.length + 1) x) : NameOk x ∧ x ∉ names := by
  refine ⟨h.1, fun m => ?_⟩
  rcases h.2 with n | e | ⟨i', e, rfl, k⟩
  · exact n m
  · omega
  · have e' : i' = names.length := by omega
    subst e'
    refine spare_free (names := names) fun j hj => ?_
    by_cases z : j = names.length
    · rw [z]; exact m
    · exact k j (by omega)
theorem inV_str (x : Str) (l : List Str) : inV (.str x) (l.map V.str) = decide (x ∈ l) := by
  unfold inV
  induction l with
  | nil => rfl
  | cons q l ih =>
    rw [List.map_cons, List.any_cons, ih]
    show ((q == x) || _) = _
    by_cases h : q = x
    · subst h; simp
    · have h' : ¬ x = q := fun z => h z.symm
      simp [h, h']
theorem flat_strs (l : List Str) : (l.map V.str).all flatV = true := by
  rw [List.all_eq_true]
  intro x h
  obtain ⟨r, _, rfl⟩ := List.mem_map.mp h
  rfl
theorem pool_ne {H : Hp} {l t : Addr} {names : List Str} (p : Pool H l) (h : H t = some (.lst (names.map V.str))) : l ≠ t := by
  obtain ⟨a, b, c, e, _⟩ := p
  refine ne_of e h fun z => ?_
  cases names with
  | nil => cases z
  | cons x r => cases z
end HA

/-! A law's end, where the law's def is walked with no repr under way. -/
namespace HA
open PySem PySem.Spec PyProof.Rows L2
/-- the surroundings of the law's call over a heap of which at most the script is tracked -/
theorem env_start {P : Program} {w : World} {K : PySem.W.Frag} {mg m2 : Str → Option Value} {s1 : Shared} {H : Hp} {a : Addr} {c : Array Value}
    (kin : K.In s1.heap) (nsm : s1.heap.Ns mainGlobals mg) (nsb : s1.heap.Ns builtinsNs m2)
    (boot : ∀ y : Str, y ≠ "__name__" → m2 y = bootBuiltins y) (nol : s1.heap.NoLimit) (gens : s1.gens = #[])
    (at_ : s1.heap.get? a = some { cls := .type "list", data := .seq c })
    (ok : HOk P w H s1.heap) (one : ∀ b, H b ≠ none → b = a) (away : H a ≠ none → K.lookup a = none) :
    K.In (hidT s1.heap H) ∧ (hidT s1.heap H).Ns mainGlobals mg ∧ Env0 P w K mg (hidT s1.heap H) callerA [] s1 H := by
  have none_dict : ∀ {b : Addr} {o : Obj} {es : Array DictEntry} {ep : Nat}, s1.heap.get? b = some o → o.data = .dict es ep → H b = none := by
    intro b o es ep e d
    cases hb : H b with
    | none => rfl
    | some u =>
      have z : b = a := one b (by rw [hb]; intro q; cases q)
      subst z
      rw [at_] at e
      cases e
      exact absurd (show Data.seq c _ = Data.dict es ep from d) (by intro q; cases q)
  have under : ∀ {b : Addr} {m : Str → Option Value}, s1.heap.Ns b m → (hidT s1.heap H).Ns b m := by
    rintro b m ⟨o, es, ep, e, d, r⟩
    exact ⟨o, es, ep, hidT_get e (none_dict e d), d, r⟩
  have kin2 : K.In (hidT s1.heap H) := by
    intro b o e
    refine hidT_get (kin b o e) ?_
    cases hb : H b with
    | none => rfl
    | some u =>
      have z : b = a := one b (by rw [hb]; intro q; cases q)
      subst z
      rw [away (by rw [hb]; intro q; cases q)] at e
      cases e
  obtain ⟨mc, l1, l2⟩ := nol
  exact ⟨kin2, under nsm, ⟨rfl, ⟨kin2, under nsm, ⟨m2, under nsb, boot⟩, ⟨mc, under l1, l2⟩⟩, fun b o e => of_hidT e, Nat.le_of_eq (hidT_size _ _), trivial,
    fun b hb => (by cases hb), ok, .of_eq gens⟩⟩
theorem law_callG {P : Program} {w : World} {K : PySem.W.Frag} {mg m2 : Str → Option Value} {k : Nat} {fa a : Addr} {fd : FuncData} {x : Str} {sp : Sp} {s1 : Shared} {us : List Value} {ns : List Int}
    (kin : K.In s1.heap) (nsm : s1.heap.Ns mainGlobals mg) (nsb : s1.heap.Ns builtinsNs m2)
    (boot : ∀ y : Str, y ≠ "__name__" → m2 y = bootBuiltins y) (nol : s1.heap.NoLimit) (gens : s1.gens = #[])
    (at_ : s1.heap.get? a = some { cls := .type "list", data := .seq us.toArray }) (nums : IntsAre us ns) (long : ns.length ≤ sizeLine) (room : Room k callerA)
    (F : ∀ base : Heap, K.In base → base.Ns mainGlobals mg → GnOk P w K mg base CX0 k fa fd [x] sp)
    (bind : ∀ (s : Shared) (u : Value), BindsTo s fd ⟨[u], []⟩ [(x, u)])
    (asked : ∀ H : Hp, SqL K H a (ns.map V.int) → sp [.ref a] H (fun v _ => v = .bl true) fun _ _ _ => False) :
    codeAny (model P w) callerA (.call (.ref fa) ⟨[.ref a], []⟩)
      (fun r s2 => r = .ok (.ret (.bool true)) ∧ OldK s1.heap s2.heap ∧ s2.os = s1.os ∧ AllBare s2.gens) s1 := by
  have rel := vals_ints nums
  have len := nums.length
  have go : ∀ H : Hp, Only H → SqL K H a (ns.map V.int) → HOk P w H s1.heap → (∀ b, H b ≠ none → b = a) → (H a ≠ none → K.lookup a = none) →
      codeAny (model P w) callerA (.call (.ref fa) ⟨[.ref a], []⟩)
        (fun r s2 => r = .ok (.ret (.bool true)) ∧ OldK s1.heap s2.heap ∧ s2.os = s1.os ∧ AllBare s2.gens) s1 := by
    intro H only seq ok one away
    obtain ⟨k1, n1, env⟩ := env_start kin nsm nsb boot nol gens at_ ok one away
    refine codeAny_mono ((F _ k1 n1).does callerA [] s1 H ⟨[.ref a], []⟩ [.ref a] [.ref a] _ _ rfl room env (bind s1 (.ref a)) (.cons rfl .nil) (asked H seq)) ?_
    intro r s2 h
    match r, h with
    | .error e, h => exact (show False from h).elim
    | .ok .next, h => exact (show False from h).elim
    | .ok .brk, h => exact (show False from h).elim
    | .ok .cont, h => exact (show False from h).elim
    | .ok (.ret u), h =>
      obtain ⟨v, H2, same, bare, un, ok2, r2, e⟩ := h
      have e' : v = .bl true := e
      subst e'
      obtain rfl : u = Value.bool true := r2
      refine ⟨rfl, OldK.of_keep ?_, same, bare⟩
      intro b o e1
      cases hb : H b with
      | none => exact un.keep b o e1 hb (fun z => absurd (show b ∈ ([] : List Addr) from z) List.not_mem_nil) (by simp)
      | some y =>
        rcases only b with z | ⟨q, xs, z⟩
        · rw [hb] at z
          cases z
        · obtain ⟨f1, _⟩ := ok b _ z
          obtain ⟨f2, _⟩ := ok2 b _ (un.frzs b q _ z)
          rw [e1] at f1
          cases f1
          exact f2
  cases hk : K.lookup a with
  | some o =>
    have e := kin a o hk
    rw [at_] at e
    cases e
    exact go (fun _ => none) (fun _ => .inl rfl)
      (.inr ⟨_, us.toArray, _, hk, rfl, rfl, rfl, by rw [List.size_toArray, len]; exact long, by simpa using rel⟩)
      (fun b u z => absurd (show (none : Option HO) = some u from z) (by intro q; cases q)) (fun b z => absurd rfl z) fun z => absurd rfl z
  | none =>
    have here : ∀ {b : Addr} {u : HO}, (if b = a then some (HO.frz { cls := .type "list", data := .seq us.toArray } (.lst (ns.map V.int))) else none) = some u →
        b = a ∧ u = HO.frz { cls := .type "list", data := .seq us.toArray } (.lst (ns.map V.int)) := by
      intro b u e
      by_cases hb : b = a
      · rw [if_pos hb] at e
        cases e
        exact ⟨hb, rfl⟩
      · rw [if_neg hb] at e
        cases e
    refine go (fun b => if b = a then some (.frz { cls := .type "list", data := .seq us.toArray } (.lst (ns.map V.int))) else none) (fun b => ?_)
      (.inl (.inr ⟨_, if_pos rfl⟩)) (fun b u z => ?_) (fun b z => ?_) fun _ => hk
    · by_cases hb : b = a
      · exact .inr ⟨_, _, if_pos hb⟩
      · exact Or.inl (if_neg hb)
    · obtain ⟨rfl, rfl⟩ := here z
      exact ⟨at_, by rw [List.length_map]; exact long, us, _, rel, at_⟩
    · by_cases hb : b = a
      · exact hb
      · exact (z (if_neg hb)).elim
theorem walk_ofG {l : PySem.W.OpenLaw} {n k : Nat} {q : Program} {loose : List Str} {XP : (Str → Option Value) → Heap → Prop} {YP : World → Heap → Prop} {d : DefRec} {K : Params → PySem.W.Frag} {sp : PySem.W.Frag → Sp} {x : Str}
    (most : l.most = some n) (small : n ≤ sizeLine) (plain : d.params.defaults = []) (room : Room k callerA)
    (written : ∀ (w : World) (h : Heap), YP w h → (K w.params).In h)
    (F : ∀ (w : World) (mg : Str → Option Value) (fa : Addr) (h : Heap), (K w.params).In h → h.Ns mainGlobals mg → mg d.name = some (.ref fa) →
      ∃ fd : FuncData, (∀ (s : Shared) (u : Value), BindsTo s fd ⟨[u], []⟩ [(x, u)]) ∧
        ∀ base : Heap, (K w.params).In base → base.Ns mainGlobals mg → GnOk l.prog w (K w.params) mg base CX0 k fa fd [x] (sp (K w.params)))
    (asked : ∀ (K : PySem.W.Frag) (H : Hp) (a : Addr) (ns : List Int), SqL K H a (ns.map V.int) → sp K [.ref a] H (fun v _ => v = .bl true) fun _ _ _ => False) :
    PySem.W.WalkO q loose XP YP l.row.toRowW d [] (fun f vs => PySem.call f vs) := by
  refine Att.attach_call most plain ?_
  intro w s0 s1 mg m2 fa o pm cd doc a us ns G Y ho hd hcd hmg at_ nums short gens
  obtain ⟨fd, bind, ok⟩ := F w mg fa _ (written w _ Y) G.T.g hmg
  exact law_callG (written w _ Y) G.T.g G.T.b G.T.builtins G.T.nolimit gens at_ nums (Nat.le_trans short small) room ok bind fun H seq => asked _ H a ns seq
end HA

/-! Own classes asked by one another. -/
namespace HX
open PySem PySem.Spec PyProof.Rows L2
section
variable {K : PySem.W.Frag} {C D : Addr} {b : Bool}
theorem kcl_own (hd : PySem.W.hasDictIn K D = true) (ht : PySem.W.typeIn K (.ref D) = some (.type "type")) (h : PySem.W.subIn K (.ref C) (.ref D) = some b) : PySem.W.kitCls K (.ref C) (.ref D) = some b := by
  obtain ⟨cd, hc, _⟩ := PySem.W.any_some hd
  have e2 : ((PySem.W.clsIn K D).isSome && PySem.W.typeIn K (.ref D) == some (.type "type")) = true := by rw [hc, ht] <;> rfl
  show (if ((PySem.W.clsIn K D).isSome && PySem.W.typeIn K (.ref D) == some (.type "type")) = true then PySem.W.subIn K (.ref C) (.ref D) else none) = some b
  rw [if_pos e2]
  exact h
theorem kit_own (hd : PySem.W.hasDictIn K D = true) (ht : PySem.W.typeIn K (.ref D) = some (.type "type")) (h : PySem.W.subIn K (.ref C) (.ref D) = some b) (s : PySem.W.subIn K (.ref C) (.ref C) = some true) : PySem.W.kitOne K (.ref C) (.ref D) = some b := by
  unfold PySem.W.kitOne
  by_cases e : ((Value.ref C == Value.ref D) = true)
  · rw [if_pos e]
    have e' : C = D := Value.ref.inj (beq_iff_eq.mp e)
    subst e'
    rw [s] at h
    exact h
  · rw [if_neg e]
    exact kcl_own hd ht h
theorem kit_ve (h : PySem.W.subIn K (.ref C) (.type "ValueError") = some true) : PySem.W.kitOne K (.ref C) (.type "ValueError") = some true := by
  unfold PySem.W.kitOne
  rw [if_neg (by intro z; cases beq_iff_eq.mp z)]
  show (if PySem.W.kitMeta "ValueError" = true then PySem.W.subIn K (.ref C) (.type "ValueError") else none) = some true
  rw [if_pos (by decide +kernel)]
  exact h
end
end HX

/-! Words for readings, and rules that speak of any later heap. -/
namespace HA
open PySem PySem.Spec PyProof.Rows L2
theorem iteB {A B : Prop} {b : Bool} (h : b = true → A) (h' : b = false → B) : if b = true then A else B := by
  cases b with
  | true => exact h rfl
  | false => exact h' rfl
theorem _root_.L2.Same.kp {H H1 H2 : Hp} {F : Addr} (s : Same H H1) (k : Kp [F] H1 H2) (n : H F = none) : Same H H2 := fun b o e =>
  k b o (fun m => by
    cases m with
    | head => rw [n] at e; cases e
    | tail _ m => cases m) (s b o e)
theorem Kp.hide {S : List Addr} {H H1 H2 : Hp} {D : Addr} (a : Kp S H H1) (b : Kp (D :: S) H1 H2) (n : H D = none) : Kp S H H2 := fun x o m e =>
  b x o (fun z => by
    rcases List.mem_cons.mp z with rfl | z
    · rw [n] at e; cases e
    · exact m z) (a x o m e)
theorem lone {a b : Addr} (h : a ≠ b) : a ∉ [b] := fun m => h (List.mem_singleton.mp m)
theorem un200 {k : Nat} {A : Around} (h : Room k A) : A.units + 200 < cLine := by
  have := h.un
  omega
section
variable {X : Cx}
/-- [..] * n -/
def rRepN : R2 := fun x y H Q => ∃ l k xs, x = .ref l ∧ y = .int k ∧ H l = some (.lst xs) ∧ -(2 ^ 63) ≤ k ∧ k < 2 ^ 63 ∧ xs.length * k.toNat ≤ sizeLine ∧
  ∀ H' p, Same H H' → H p = none → H' p = some (.lst (List.replicate k.toNat xs).flatten) → Q (.ref p) H'
theorem op_repN : OpR X (binaryOp .Mult) rRepN := op_imp op_rep fun x y H Q ⟨l, k, xs, e1, e2, h, a, b, z, q⟩ => ⟨l, k, xs, e1, e2, h, a, b, z, fun p np => q _ p (Same.new np) np upd_same⟩
/-- xs[::-1] -/
def tRevN (K : PySem.W.Frag) (te : TE) : TE := fun σ H Q => te σ H fun x H1 => ∃ a xs, x = .ref a ∧ SqL K H1 a xs ∧ ∀ H' p, Same H1 H' → H1 p = none → H' p = some (.lst xs.reverse) → Q (.ref p) H'
theorem pe_revN {e : Expr} {te : TE} {k : Nat} {p1 p2 p3 pos : Pos} (he : PE X e te) : PE X (.Subscript e (.Slice none none (some (.UnaryOp .USub (.Constant (.int 1) k p1) p2)) p3) pos) (tRevN X.K te) := by
  refine ⟨fun pins s σ H Q I h => (pe_revL (HX.pe_cl he)).run pins s σ H Q I ⟨_, h, fun v H1 ⟨a, xs, e, hs, q⟩ => ⟨a, xs, e, hs, fun p np => q _ p (Same.new np) np upd_same⟩⟩⟩
/-- sorted(d), the keys are texts -/
def rSortedDN : List V → Hp → VK → Prop := fun xs H Q => ∃ (a : Addr) (kvs : List (Key × V)) (ks : List Str), xs = [.ref a] ∧ Rd H a (.dK kvs) ∧ kvs.map (·.1) = ks.map Sum.inr ∧ ks.length < 64 ∧
  ∀ ys H' p, ys.Perm ks → sortedS ys = true → Same H H' → H p = none → H' p = some (.lst (ys.map V.str)) → Q (.ref p) H'
theorem call_sortedDN (hc : X.calm = true) : CallR X (.builtin "sorted") rSortedDN := cr_imp (call_sortedD hc) fun xs H Q ⟨a, kvs, ks, e, h, m, z, q⟩ =>
  ⟨a, kvs, ks, e, h, m, z, fun ys p h1 h2 np => q ys _ p h1 h2 (Same.new np) np upd_same⟩
end
end HA
namespace HA
open PySem PySem.Spec PyProof.Rows L2
section
variable {X : Cx} {tg : Expr}
/-- for .. in xs, a list or a tuple -/
def iSeq (K : PySem.W.Frag) (tl : TE) : TI := fun σ H R => tl σ H fun x H1 => ∃ a, x = .ref a ∧ (((∃ xs, SqL K H1 a xs) ∧ R (Itl K a) H1) ∨ ((∃ xs, SqT K H1 a xs) ∧ R (Itt K a) H1))
theorem pi_seq {l : Expr} {tl : TE} (hl : PE X l tl) : PI X tg l (iSeq X.K tl) := by
  refine ⟨fun pins s σ H R I h => thn (hl.run pins s σ H _ I h) fun v s1 ⟨x, H1, I1, r1, a, e, q1⟩ => ?_⟩
  subst e
  cases r1
  have mine : ∀ b ∈ [s1.heap.objs.size], FpOk X pins H1 b := fun b hb => by
    obtain rfl : b = s1.heap.objs.size := by simpa using hb
    exact I1.fpOk (Nat.le_refl _) (I1.hok.fresh (Nat.le_refl _))
  rcases q1 with ⟨⟨xs, hq⟩, q⟩ | ⟨⟨xs, hq⟩, q⟩
  · obtain ⟨its, rv, p, hz⟩ := I1.list hq
    exact wpAny_pyIter_list p.isList ⟨s1.heap.objs.size, [s1.heap.objs.size], _, _, H1, rfl, I1.kept (t' := s1.toks) fun b o e => Heap.get?_push_of_some _ e, turn_list a _, ⟨_, Heap.get?_push_size _ rfl, rfl, rfl⟩, mine, q⟩
  · obtain ⟨its, rv, p, hz⟩ := I1.tuple hq
    exact wpAny_pyIter_tuple (show s1.heap.IsTuple a its.toArray from p) ⟨s1.heap.objs.size, [s1.heap.objs.size], _, _, H1, rfl, I1.kept (t' := s1.toks) fun b o e => Heap.get?_push_of_some _ e, turn_tuple a _, ⟨_, Heap.get?_push_size _ rfl, rfl, rfl⟩, mine, q⟩
end
/-- a list or a tuple -/
def SqA (K : PySem.W.Frag) (H : Hp) (a : Addr) (xs : List V) : Prop := SqL K H a xs ∨ SqT K H a xs
theorem SqA.sm {K : PySem.W.Frag} {H H' : Hp} {a : Addr} {xs : List V} (e : Same H H') (h : SqA K H a xs) : SqA K H' a xs := h.imp (Same.seq e) (Same.seqT e)
theorem for_seq {K : PySem.W.Frag} {a : Addr} {xs : List V} {g : TG} {tb : TS} {D : Ends} {σ : L2.St} {H : Hp} (Pv : Nat → L2.St → Hp → Prop) (hq : SqA K H a xs) (same : ∀ i σ' H', i ≤ xs.length → Pv i σ' H' → Same H H') (h0 : Pv 0 σ H)
    (hs : ∀ i x σ H, xs[i]? = some x → Pv i σ H → g x σ H fun σ2 H2 => tb { D with nx := Pv (i + 1), ct := Pv (i + 1), bk := D.nx } σ2 H2) (hd : ∀ σ H, Pv xs.length σ H → D.nx σ H) :
    tFor (iSeq K (fun _ H Q => Q (.ref a) H)) g tb D σ H := by
  refine ⟨a, rfl, ?_⟩
  rcases hq with hq | hq
  · exact .inl ⟨⟨_, hq⟩, for_list Pv h0 (fun i σ' H' hi p => (same i σ' H' hi p).seq hq) hs hd⟩
  · exact .inr ⟨⟨_, hq⟩, for_tup Pv h0 (fun i σ' H' hi p => (same i σ' H' hi p).seqT hq) hs hd⟩
end HA

/-! Rules for the items of a comprehension: their readings name the frame K and not the block. -/
namespace HA
open PySem PySem.Spec PyProof.Rows L2 HX
section
variable {X : Cx} {K : PySem.W.Frag}
theorem ix_listK (h : X.K = K) : IxR X (rIxL K) := by subst h; exact ix_list
theorem ix_tupK (h : X.K = K) : IxR X (rIxT K) := by subst h; exact ix_tup
def rLenQ (K : PySem.W.Frag) : List V → Hp → VK → Prop := fun xs H Q => ∃ p ys, xs = [.ref p] ∧ (SqL K H p ys ∨ SqT K H p ys) ∧ Q (.int ys.length) H
theorem call_len_seqK (h : X.K = K) : CallR X (.builtin "len") (rLenQ K) := by subst h; exact call_len_seq
theorem op_neDK (h : X.K = K) (hu : X.A.units + 64 < cLine) : OpR X (compareOp .NotEq) (rNeD K) := by subst h; exact op_neD hu
theorem op_notIn_seqK (h : X.K = K) : OpR X (compareOp .NotIn) (rIn K true) := by subst h; exact op_notIn_seq
theorem call_listNK (h : X.K = K) : CallR X (.type "list") (rListN K) := by subst h; exact call_listN
theorem call_tupleFK (h : X.K = K) : CallR X (.type "tuple") (rTupleF K) := by subst h; exact call_tupleF
theorem cr_sortedAK (h : X.K = K) : CallR X (.builtin "sorted") (rSortedA K) := by subst h; exact cr_sortedA
theorem pe_revNK {e : Expr} {te : TE} {k : Nat} {p1 p2 p3 pos : Pos} (h : X.K = K) (he : PE X e te) : PE X (.Subscript e (.Slice none none (some (.UnaryOp .USub (.Constant (.int 1) k p1) p2)) p3) pos) (tRevN K te) := by
  subst h; exact pe_revN he
end
end HA

/-! Own operators; walks over dicts, the lock hidden; dicts as functions. -/
namespace HX
open PySem PySem.Spec PyProof.Rows L2 HA
section
variable {X : Cx}
/-- a + b, a | b .. of two instances of one class that has the operator -/
def rOwnOp (C : Addr) (sp : Sp) (E : XK) : R2 := fun x y H Q => ∃ a b dx dy fs gs, x = .ref a ∧ y = .ref b ∧ H a = some (.ins C dx fs) ∧ H b = some (.ins C dy gs) ∧ sp [x, y] H (fun v H' => ∃ p, v = .ref p ∧ Q (.ref p) H') E
theorem op_own {op : Operator} {C f : Addr} {CX : CXT} {k : Nat} {fd : FuncData} {p1 p2 : Str} {sp : Sp} {E : XK} (sf : PySem.W.selfFirst X.K C = true) (hs : PySem.W.findIn X.K (.ref C) (PySem.dunder op.info.2) = some (some (.ref f))) (hf : PySem.W.isFn X.K (.ref f) = true)
    (F : FnOk X.prog X.w X.K X.mg X.base CX k f fd [p1, p2] sp) (hr : Room k X.A) (hb : Binds X.K fd [p1, p2] []) (hx : Passes CX X E) : OpR X (binaryOp op) (rOwnOp C sp E) := by
  intro pins s σ H x y v u Q I rx ry h
  obtain ⟨a, b, dx, dy, fs, gs, rfl, rfl, ha, hb', q⟩ := h
  cases rx
  cases ry
  obtain ⟨mA, O, _⟩ := ins_get I.hok ha
  obtain ⟨mB, O2, _⟩ := ins_get I.hok hb'
  obtain ⟨od, IA, _⟩ := O.look
  obtain ⟨od2, IB, _⟩ := O2.look
  obtain ⟨m, F0⟩ := I.fr
  refine PySem.W.binop_K F0 I.ok.mod.kin IA IB.type sf hs hf ?_
  refine wpAny_mono (run_fn (us := [.ref a, .ref b]) (vs := [.ref a, .ref b]) (dvs := []) (ds := []) F hr hb .nil hx I (.cons rfl (.cons rfl .nil)) q) (fun w s' hw => ?_) fun _ _ z => z
  obtain ⟨z, H', I', rz, p, rfl, q'⟩ := hw
  cases rz
  exact ⟨.ref p, H', I', rfl, q'⟩
/-- x in t, a tuple of data -/
def rInT (K : PySem.W.Frag) : R2 := fun x y H Q => ∃ d ds, Dp K H x d ∧ Dp K H y (.tuple ds) ∧ SeqAt.shaped d = true ∧ SeqAt.shaped (.tuple ds) = true ∧ Q (.bl (ds.any fun z => PyData.eqv z d)) H
theorem op_inT (hu : X.A.units + 65 < cLine) : OpR X (compareOp .In) (rInT X.K) := by
  intro pins s σ H x y v u Q I rx ry h
  obtain ⟨d, ds, hd, he, sd, se, q⟩ := h
  obtain ⟨as, r1⟩ := Dp.reads I d x v hd rx
  obtain ⟨bs, r2⟩ := Dp.reads I (.tuple ds) y u he ry
  exact SeqAt.in_tuple_reads r2 r1 (SeqAt.canLay_of_shaped se) (SeqAt.canLay_of_shaped sd) (room_in_shaped sd hu) ⟨.bl _, H, I, rfl, q⟩
end
/-! walks over a dict; what holds is said of the heap without the lock -/
theorem unlock {H : Hp} {D : Addr} {u f : HO} (h : H D = some u) : upd (upd H D f) D u = H := by
  funext b
  by_cases e : b = D
  · subst e
    rw [upd_same, h]
  · rw [upd_ne e, upd_ne e]
theorem upd_comm {H : Hp} {a b : Addr} {o u : HO} (h : a ≠ b) : upd (upd H a o) b u = upd (upd H b u) a o := by
  funext c
  by_cases e : c = b
  · subst e
    rw [upd_same, upd_ne h.symm, upd_same]
  · by_cases f : c = a
    · subst f
      rw [upd_ne e, upd_same, upd_same]
    · rw [upd_ne e, upd_ne f, upd_ne f, upd_ne e]
theorem _root_.L2.Same.un {H H' : Hp} {D : Addr} {u : HO} (s : Same H H') : Same (upd H D u) (upd H' D u) := fun b o e => by
  by_cases z : b = D
  · subst z
    rw [upd_same] at e ⊢
    exact e
  · rw [upd_ne z] at e ⊢
    exact s b o e
theorem forD {D : Addr} {kvs : List (Key × V)} {i : Nat} {g : TG} {tb : TS} {Dn : Ends} {σ : L2.St} {H : Hp} (hσ : σ[i]? = some (some (.ref D))) (hD : H D = some (.dK kvs)) (Pv : Nat → L2.St → Hp → Prop) (h0 : Pv 0 σ H)
    (hs : ∀ j k v σ H od, kvs[j]? = some (k, v) → H D = some (.frz od (.dK kvs)) → Pv j σ (upd H D (.dK kvs)) → g (kV k) σ H fun σ2 H2 =>
      tb ⟨fun σ' H' => H' D = some (.frz od (.dK kvs)) ∧ Pv (j + 1) σ' (upd H' D (.dK kvs)), fun v H' => H' D = some (.frz od (.dK kvs)) ∧ Dn.rt v (upd H' D (.dK kvs)), fun σ' H' => H' D = some (.frz od (.dK kvs)) ∧ Dn.nx σ' (upd H' D (.dK kvs)), fun σ' H' => H' D = some (.frz od (.dK kvs)) ∧ Pv (j + 1) σ' (upd H' D (.dK kvs))⟩ σ2 H2)
    (hd : ∀ σ H, Pv kvs.length σ H → Dn.nx σ H) : tLock (tFor (iKeys (tVar i)) g tb) Dn σ H := by
  refine ⟨D, .dK kvs, hD, trivial, fun od => ?_⟩
  refine ⟨_, hσ, D, od, rfl, .inl ⟨kvs, upd_same, ?_⟩⟩
  refine for_it walk_keys (fun j σ' H' => H' D = some (.frz od (.dK kvs)) ∧ Pv j σ' (upd H' D (.dK kvs))) ⟨upd_same, by rw [unlock hD]; exact h0⟩ (fun j σ' H' _ h => h.1) ?_ fun σ' H' h => ⟨h.1, hd σ' _ h.2⟩
  rintro j x σ' H' H'' hj ⟨hl, p⟩ ⟨rfl, k, v, hk, rfl⟩
  exact hs j k v σ' _ od hk hl p
theorem lcD {D : Addr} {kvs : List (Key × V)} {i : Nat} {g : TG} {tt : TT} {te : TE} {vs : List Nat} {σ : L2.St} {H : Hp} {Q : VK} (hσ : σ[i]? = some (some (.ref D))) (hD : H D = some (.dK kvs)) (Pv : Addr → Nat → Hp → Prop) (h0 : ∀ L, H L = none → L ≠ D → Pv L 0 (upd H L (.lst [])))
    (hs : ∀ L j k v H1 od, H L = none → kvs[j]? = some (k, v) → L ≠ D → H1 D = some (.frz od (.dK kvs)) → Pv L j (upd H1 D (.dK kvs)) → g (kV k) (wipe σ vs) H1 fun σ2 H2 => wipe σ2 vs = wipe σ vs ∧ tt σ2 H2 fun b H3 =>
      if b = true then te σ2 H3 fun y H4 => ∃ acc, H4 L = some (.lst acc) ∧ acc.length < sizeLine ∧ (upd H4 L (.lst (acc ++ [y]))) D = some (.frz od (.dK kvs)) ∧ Pv L (j + 1) (upd (upd H4 L (.lst (acc ++ [y]))) D (.dK kvs)) else H3 D = some (.frz od (.dK kvs)) ∧ Pv L (j + 1) (upd H3 D (.dK kvs)))
    (hd : ∀ L H1, H L = none → Pv L kvs.length H1 → Q (.ref L) H1) : tLockE (tLc (iKeys (tVar i)) g tt te vs) σ H Q := by
  refine ⟨D, .dK kvs, hD, trivial, fun od => ?_⟩
  refine ⟨_, hσ, D, od, rfl, .inl ⟨kvs, upd_same, fun L nL => ?_⟩⟩
  have LD : L ≠ D := by
    rintro rfl
    rw [upd_same] at nL
    cases nL
  have nL0 : H L = none := by rwa [upd_ne LD] at nL
  refine lc_it walk_keys (fun j H' => H' D = some (.frz od (.dK kvs)) ∧ Pv L j (upd H' D (.dK kvs))) ⟨by rw [upd_ne LD.symm]; exact upd_same, by rw [upd_comm LD, unlock hD]; exact h0 L nL0 LD⟩ (fun j H' _ h => h.1) ?_ fun H' h => ⟨h.1, hd L _ nL0 h.2⟩
  rintro j x H1 H2 hj ⟨hl, p⟩ ⟨rfl, k, v, hk, rfl⟩
  exact hs L j k v _ od nL0 hk LD hl p
theorem dc_it {J : It} {n : Nat} {G : Hp → Prop} {Y : Nat → Hp → V → Hp → Prop} (w : Walk J n G Y) {g : TG} {tt : TT} {tk tv : TE} {vs : List Nat} {σ : L2.St} {H1 : Hp} {D : Addr} {Qd : Hp → Prop} (Pv : Nat → Hp → Prop) (h0 : Pv 0 (upd H1 D (.dK []))) (hG : ∀ i H, i ≤ n → Pv i H → G H)
    (hs : ∀ i x H H', i < n → Pv i H → Y i H x H' → g x (wipe σ vs) H' fun σ2 H2 => wipe σ2 vs = wipe σ vs ∧ tt σ2 H2 fun b H3 =>
      if b = true then tk σ2 H3 fun y H4 => tv σ2 H4 fun z H5 => ∃ kvs k, y = kV k ∧ H5 D = some (.dK kvs) ∧ kvs.length < sizeLine ∧ Pv (i + 1) (upd H5 D (.dK (putK kvs k z))) else Pv (i + 1) H3) (hd : ∀ H, Pv n H → Qd H) :
    ∃ W : Nat → Nat → Hp → Prop, (∃ m, W 0 m (upd H1 D (.dK []))) ∧ ∀ i m H, W i m H →
      (J.stop i H ∧ Qd H) ∨ (J.go i H ∧ ∃ Nx : Hp → Prop, (∀ H', Nx H' → ∃ m', m' < m ∧ W (i + 1) m' H') ∧ ∀ x H', J.yld i H x H' → g x (wipe σ vs) H' fun σ2 H2 => wipe σ2 vs = wipe σ vs ∧ tt σ2 H2 fun b H3 =>
        if b = true then tk σ2 H3 fun y H4 => tv σ2 H4 fun z H5 => ∃ kvs k, y = kV k ∧ H5 D = some (.dK kvs) ∧ kvs.length < sizeLine ∧ Nx (upd H5 D (.dK (putK kvs k z))) else Nx H3) := by
  refine ⟨fun i m H => m = n - i ∧ i ≤ n ∧ Pv i H, ⟨n, by simp, Nat.zero_le _, h0⟩, ?_⟩
  rintro i m H ⟨rfl, hi, p⟩
  have q := hG i H hi p
  by_cases c : i < n
  · exact .inr ⟨w.goes i H c q, Pv (i + 1), fun H' p' => ⟨n - (i + 1), by omega, rfl, c, p'⟩, fun x H' y => hs i x H H' c p (w.yields i H x H' c q y)⟩
  · have e : i = n := by omega
    subst e
    exact .inl ⟨w.stops H q, hd H p⟩
theorem dcD {D : Addr} {kvs : List (Key × V)} {i : Nat} {g : TG} {tt : TT} {tk tv : TE} {vs : List Nat} {σ : L2.St} {H : Hp} {Q : VK} (hσ : σ[i]? = some (some (.ref D))) (hD : H D = some (.dK kvs)) (Pv : Addr → Nat → Hp → Prop) (h0 : ∀ L, H L = none → L ≠ D → Pv L 0 (upd H L (.dK [])))
    (hs : ∀ L j k v H1 od, H L = none → kvs[j]? = some (k, v) → L ≠ D → H1 D = some (.frz od (.dK kvs)) → Pv L j (upd H1 D (.dK kvs)) → g (kV k) (wipe σ vs) H1 fun σ2 H2 => wipe σ2 vs = wipe σ vs ∧ tt σ2 H2 fun b H3 =>
      if b = true then tk σ2 H3 fun y H4 => tv σ2 H4 fun z H5 => ∃ ls k, y = kV k ∧ H5 L = some (.dK ls) ∧ ls.length < sizeLine ∧ (upd H5 L (.dK (putK ls k z))) D = some (.frz od (.dK kvs)) ∧ Pv L (j + 1) (upd (upd H5 L (.dK (putK ls k z))) D (.dK kvs)) else H3 D = some (.frz od (.dK kvs)) ∧ Pv L (j + 1) (upd H3 D (.dK kvs)))
    (hd : ∀ L H1, H L = none → Pv L kvs.length H1 → Q (.ref L) H1) : tLockE (tDc (iKeys (tVar i)) g tt tk tv vs) σ H Q := by
  refine ⟨D, .dK kvs, hD, trivial, fun od => ?_⟩
  refine ⟨_, hσ, D, od, rfl, .inl ⟨kvs, upd_same, fun L nL => ?_⟩⟩
  have LD : L ≠ D := by
    rintro rfl
    rw [upd_same] at nL
    cases nL
  have nL0 : H L = none := by rwa [upd_ne LD] at nL
  refine dc_it walk_keys (fun j H' => H' D = some (.frz od (.dK kvs)) ∧ Pv L j (upd H' D (.dK kvs))) ⟨by rw [upd_ne LD.symm]; exact upd_same, by rw [upd_comm LD, unlock hD]; exact h0 L nL0 LD⟩ (fun j H' _ h => h.1) ?_ fun H' h => ⟨h.1, hd L _ nL0 h.2⟩
  rintro j x H1 H2 hj ⟨hl, p⟩ ⟨rfl, k, v, hk, rfl⟩
  exact hs L j k v _ od nL0 hk LD hl p
/-! dicts as functions of their keys -/
def ORel {α : Type} (R : V → α → Prop) : Option V → Option α → Prop
  | none, none => True
  | some v, some t => R v t
  | _, _ => False
/-- at D: a dict whose values stand for those of f -/
def DF {α : Type} (R : Hp → V → α → Prop) (H : Hp) (D : Addr) (f : Key → Option α) : Prop := ∃ kvs : List (Key × V), H D = some (.dK kvs) ∧ (kvs.map (·.1)).Nodup ∧ ∀ k, ORel (R H) (valV kvs k) (f k)
section
variable {α : Type} {R : Hp → V → α → Prop} {H H' : Hp} {D : Addr} {f : Key → Option α} {kvs : List (Key × V)}
theorem valV_mem (nd : (kvs.map (·.1)).Nodup) {j : Nat} {k : Key} {v : V} (h : kvs[j]? = some (k, v)) : valV kvs k = some v := by
  induction kvs generalizing j with
  | nil => cases h
  | cons p l ih =>
    obtain ⟨n1, n2⟩ := List.nodup_cons.mp (show (p.1 :: l.map (·.1)).Nodup from nd)
    unfold valV
    rw [List.find?_cons]
    cases j with
    | zero =>
      cases h
      rw [decide_eq_true rfl]
      rfl
    | succ j =>
      have ne : ¬ p.1 = k := fun e => n1 (by
        rw [e]
        exact List.mem_map.mpr ⟨(k, v), List.mem_of_getElem? (show l[j]? = some (k, v) from h), rfl⟩)
      rw [decide_eq_false ne]
      exact ih n2 h
theorem valV_key {k : Key} : (valV kvs k).isSome = true ↔ k ∈ kvs.map (·.1) := by
  unfold valV
  rw [Option.isSome_map, List.find?_isSome, List.mem_map]
  exact ⟨fun ⟨p, m, e⟩ => ⟨p, m, of_decide_eq_true e⟩, fun ⟨p, m, e⟩ => ⟨p, m, decide_eq_true e⟩⟩
theorem nd_put {k : Key} (v : V) (nd : (kvs.map (·.1)).Nodup) : ((putK kvs k v).map (·.1)).Nodup := by
  unfold putK
  by_cases h : (kvs.any fun kv => decide (kv.1 = k)) = true
  · rw [if_pos h, List.map_map]
    have e : ((fun x : Key × V => x.1) ∘ fun kv : Key × V => if kv.1 = k then (kv.1, v) else kv) = fun x => x.1 := by
      funext x
      show (if x.1 = k then (x.1, v) else x).1 = x.1
      by_cases c : x.1 = k
      · rw [if_pos c]
      · rw [if_neg c]
    rw [e]
    exact nd
  · rw [if_neg h, List.map_append]
    refine List.nodup_append.mpr ⟨nd, by simp, fun a ha b hb => ?_⟩
    rintro rfl
    have e : a = k := by simpa using hb
    subst e
    obtain ⟨p, m, e⟩ := List.mem_map.mp ha
    exact h (List.any_eq_true.mpr ⟨p, m, decide_eq_true e⟩)
/-- the entries are those of f -/
theorem DF.at {k : Key} {v : V} {j : Nat} (nd : (kvs.map (·.1)).Nodup) (h : ∀ k, ORel (R H) (valV kvs k) (f k)) (e : kvs[j]? = some (k, v)) : ∃ t, f k = some t ∧ R H v t := by
  have := h k
  rw [valV_mem nd e] at this
  cases q : f k with
  | none => rw [q] at this; exact this.elim
  | some t => rw [q] at this; exact ⟨t, rfl, this⟩
theorem keys_nodup_len : ∀ {l m : List Key}, l.Nodup → (∀ x ∈ l, x ∈ m) → l.length ≤ m.length
  | [], m, _, _ => Nat.zero_le _
  | x :: l, m, nd, h => by
    obtain ⟨n1, n2⟩ := List.nodup_cons.mp nd
    have mx := h x (.head _)
    have := keys_nodup_len (m := m.erase x) n2 fun y my => (List.mem_erase_of_ne (by rintro rfl; exact n1 my)).mpr (h y (.tail _ my))
    rw [List.length_erase_of_mem mx] at this
    have := List.length_pos_of_mem mx
    rw [List.length_cons]
    omega
/-- not more entries than names -/
theorem DF.few {U : List Key} (nd : (kvs.map (·.1)).Nodup) (h : ∀ k, ORel (R H) (valV kvs k) (f k)) (u : ∀ k, f k ≠ none → k ∈ U) : kvs.length ≤ U.length := by
  have := keys_nodup_len nd (m := U) fun x m => u x fun z => by
    have a := h x
    have b := valV_key.mpr m
    rw [z] at a
    cases q : valV kvs x with
    | none => rw [q] at b; cases b
    | some v => rw [q] at a; exact a
  rwa [List.length_map] at this
theorem DF.sm (mono : ∀ v t, R H v t → R H' v t) (e : Same H H') (h : DF R H D f) : DF R H' D f := by
  obtain ⟨kvs, h1, h2, h3⟩ := h
  refine ⟨kvs, e _ _ h1, h2, fun k => ?_⟩
  have := h3 k
  cases a : valV kvs k with
  | none => cases b : f k with
    | none => trivial
    | some t => rw [a, b] at this; exact this.elim
  | some v => cases b : f k with
    | none => rw [a, b] at this; exact this.elim
    | some t => rw [a, b] at this; exact mono v t this
end
end HX

/-! Counts, and claims mended, in plain Lean. -/
namespace HA
open PySem PySem.Spec PyProof.Rows L2
/-- least, most, days -/
abbrev T3 := Int × Int × Int
def oadd : Option T3 → Option T3 → Option T3
  | none, b => b
  | some a, none => some a
  | some a, some b => some (a.1 + b.1, a.2.1 + b.2.1, max a.2.2 b.2.2)
def z3 : T3 := (0, 0, 0)
def oor : Option T3 → Option T3 → Option T3
  | none, none => none
  | a, b => some (min (a.getD z3).1 (b.getD z3).1, max (a.getD z3).2.1 (b.getD z3).2.1, max (a.getD z3).2.2 (b.getD z3).2.2)
def Kd.bx : Kd → T3 → T3
  | .once, t => t
  | .st n k, t => (0, n * t.2.1, k + t.2.2)
abbrev CF := Key → Option T3
def cadd (f g : CF) : CF := fun r => oadd (f r) (g r)
def cor (f g : CF) : CF := fun r => oor (f r) (g r)
def cbox (k : Kd) (f : CF) : CF := fun r => (f r).map k.bx
def cwo (l : Int) (f : CF) : CF := fun r => if r = .inl l then none else f r
def cone (r : Key) : CF := fun q => if q = r then some (1, 1, 0) else none
def cnil : CF := fun _ => none
namespace Row
def cnt : Row → Int → CF
  | own r, _ => cone r
  | cite _, _ => cnil
  | take b, l => cwo l (b.cnt (l + 1))
  | pick r _ b, l => cadd (cone r) (cwo l (b.cnt (l + 1)))
  | make _ _ b, l => b.cnt l
  | opn r _ _ b, l => cadd (cone r) (cwo l (b.cnt (l + 1)))
  | offer a b, l => cor (a.cnt l) (b.cnt l)
  | pay r k a b, l => cadd (cadd (cone r) (cbox k (a.cnt l))) (cwo l (b.cnt (l + 1)))
  | cut k _ a b, l => cadd (cbox k (a.cnt l)) (cwo l (b.cnt (l + 1)))
end Row
theorem oadd_comm (a b : Option T3) : oadd a b = oadd b a := by
  cases a <;> cases b <;> first | rfl | (simp only [oadd, Option.some.injEq, Prod.mk.injEq]; omega)
theorem oadd_assoc (a b c : Option T3) : oadd (oadd a b) c = oadd a (oadd b c) := by
  cases a <;> cases b <;> cases c <;> first | rfl | (simp only [oadd, Option.some.injEq, Prod.mk.injEq]; omega)
theorem oadd_none (a : Option T3) : oadd a none = a := by cases a <;> rfl
theorem cadd_comm (f g : CF) : cadd f g = cadd g f := funext fun r => oadd_comm _ _
theorem cadd_assoc (f g h : CF) : cadd (cadd f g) h = cadd f (cadd g h) := funext fun r => oadd_assoc _ _ _
/-- the kinds of a part may stand -/
def Kd.ok : Kd → Prop
  | .once => True
  | .st n k => 1 ≤ n ∧ n ≤ 1000000 ∧ 0 ≤ k ∧ k ≤ 1000000
def Row.ok : Row → Prop
  | .own _ => True
  | .cite _ => True
  | .take b => b.ok
  | .pick _ _ b => b.ok
  | .make _ _ b => b.ok
  | .opn _ _ _ b => b.ok
  | .offer a b => a.ok ∧ b.ok
  | .pay _ k a b => k.ok ∧ a.ok ∧ b.ok
  | .cut k _ a b => k.ok ∧ a.ok ∧ b.ok
theorem Row.ok_mv {o n : Int} {ρ : Ren} : ∀ {t : Row}, t.ok → (t.mv o n ρ).ok
  | .own _, _ => trivial
  | .cite _, _ => trivial
  | .take b, h => ok_mv (t := b) h
  | .pick _ _ b, h => ok_mv (t := b) h
  | .make _ _ b, h => ok_mv (t := b) h
  | .opn _ _ _ b, h => ok_mv (t := b) h
  | .offer a b, h => ⟨ok_mv h.1, ok_mv h.2⟩
  | .pay _ k a b, h => ⟨h.1, ok_mv h.2.1, ok_mv h.2.2⟩
  | .cut k _ a b, h => ⟨h.1, ok_mv h.2.1, ok_mv h.2.2⟩
/-- numbers that may stand -/
def P3 (t : T3) : Prop := 0 ≤ t.1 ∧ 1 ≤ t.2.1 ∧ 0 ≤ t.2.2
def Pos (f : CF) : Prop := ∀ r t, f r = some t → P3 t
theorem Pos.one (r : Key) : Pos (cone r) := fun q t h => by
  unfold cone at h
  by_cases e : q = r
  · rw [if_pos e] at h
    cases h
    exact ⟨by decide, by decide, by decide⟩
  · rw [if_neg e] at h
    cases h
theorem Pos.nil : Pos cnil := fun q t h => by cases h
theorem P3.add {a b : Option T3} {t : T3} (ha : ∀ u, a = some u → P3 u) (hb : ∀ u, b = some u → P3 u) (h : oadd a b = some t) : P3 t := by
  cases a with
  | none => exact hb t h
  | some a => cases b with
    | none => exact ha t h
    | some b =>
      cases h
      have x := ha a rfl
      have y := hb b rfl
      unfold P3 at *
      dsimp only
      omega
theorem Pos.add {f g : CF} (hf : Pos f) (hg : Pos g) : Pos (cadd f g) := fun r t h => P3.add (hf r) (hg r) h
theorem Pos.or {f g : CF} (hf : Pos f) (hg : Pos g) : Pos (cor f g) := fun r t h => by
  have x := hf r
  have y := hg r
  unfold cor at h
  cases a : f r with
  | none => cases b : g r with
    | none => rw [a, b] at h; cases h
    | some b' =>
      rw [a, b] at h
      have y := y b' b
      simp only [oor, Option.getD_none, Option.getD_some, z3, Option.some.injEq] at h
      subst h
      unfold P3 at *
      dsimp only
      omega
  | some a' => cases b : g r with
    | none =>
      rw [a, b] at h
      have x := x a' a
      simp only [oor, Option.getD_none, Option.getD_some, z3, Option.some.injEq] at h
      subst h
      unfold P3 at *
      dsimp only
      omega
    | some b' =>
      rw [a, b] at h
      have x := x a' a
      have y := y b' b
      simp only [oor, Option.getD_none, Option.getD_some, z3, Option.some.injEq] at h
      subst h
      unfold P3 at *
      dsimp only
      omega
theorem P3.bx {k : Kd} {t : T3} (hk : k.ok) (h : P3 t) : P3 (k.bx t) := by
  cases k with
  | once => exact h
  | st n d =>
    obtain ⟨h1, h2, h3⟩ := h
    have hn : 1 ≤ n := hk.1
    have hd : 0 ≤ d := hk.2.2.1
    refine ⟨Int.le_refl _, ?_, ?_⟩
    · show 1 ≤ n * t.2.1
      have := Int.mul_le_mul hn h2 (by decide) (by omega)
      simpa using this
    · show 0 ≤ d + t.2.2
      omega
theorem Pos.box {f : CF} {k : Kd} (hk : k.ok) (hf : Pos f) : Pos (cbox k f) := fun r t h => by
  unfold cbox at h
  obtain ⟨u, hu, rfl⟩ := Option.map_eq_some_iff.mp h
  exact P3.bx hk (hf r u hu)
theorem Pos.wo {f : CF} {l : Int} (hf : Pos f) : Pos (cwo l f) := fun r t h => by
  unfold cwo at h
  by_cases e : r = .inl l
  · rw [if_pos e] at h
    cases h
  · rw [if_neg e] at h
    exact hf r t h
theorem Row.pos : ∀ {t : Row} (l : Int), t.ok → Pos (t.cnt l)
  | .own r, _, _ => Pos.one r
  | .cite _, _, _ => Pos.nil
  | .take b, l, h => (pos (t := b) (l + 1) h).wo
  | .pick r _ b, l, h => (Pos.one r).add (pos (t := b) (l + 1) h).wo
  | .make _ _ b, l, h => pos (t := b) l h
  | .opn r _ _ b, l, h => (Pos.one r).add (pos (t := b) (l + 1) h).wo
  | .offer a b, l, h => (pos l h.1).or (pos l h.2)
  | .pay r k a b, l, h => ((Pos.one r).add ((pos l h.2.1).box h.1)).add (pos (l + 1) h.2.2).wo
  | .cut k _ a b, l, h => ((pos l h.2.1).box h.1).add (pos (l + 1) h.2.2).wo
/-- the names of a count -/
def Sup (f : CF) (U : List Key) : Prop := ∀ r, f r ≠ none → r ∈ U
theorem Sup.add {f g : CF} {U : List Key} (hf : Sup f U) (hg : Sup g U) : Sup (cadd f g) U := fun r h => by
  by_cases a : f r = none
  · by_cases b : g r = none
    · unfold cadd at h; rw [a, b] at h; exact absurd rfl h
    · exact hg r b
  · exact hf r a
theorem Sup.or {f g : CF} {U : List Key} (hf : Sup f U) (hg : Sup g U) : Sup (cor f g) U := fun r h => by
  by_cases a : f r = none
  · by_cases b : g r = none
    · unfold cor at h; rw [a, b] at h; exact absurd rfl h
    · exact hg r b
  · exact hf r a
theorem Sup.box {f : CF} {U : List Key} {k : Kd} (hf : Sup f U) : Sup (cbox k f) U := fun r h => hf r fun z => h (by unfold cbox; rw [z]; rfl)
theorem Sup.wo {f : CF} {U : List Key} {l : Int} (hf : Sup f U) : Sup (cwo l f) U := fun r h => hf r fun z => h (by
  unfold cwo
  rw [z]
  split <;> rfl)
theorem Sup.mono {f : CF} {U W : List Key} (hf : Sup f U) (h : ∀ r ∈ U, r ∈ W) : Sup f W := fun r z => h r (hf r z)
theorem Sup.one {r : Key} {U : List Key} (h : r ∈ U) : Sup (cone r) U := fun q z => by
  by_cases e : q = r
  · rw [e]; exact h
  · exact absurd (if_neg e) z
theorem Row.sup : ∀ (t : Row) (l : Int), Sup (t.cnt l) t.refs
  | .own r, _ => Sup.one (.head _)
  | .cite _, _ => fun r h => absurd rfl h
  | .take b, l => (sup b (l + 1)).wo
  | .pick r _ b, l => (Sup.one (.head _)).add ((sup b (l + 1)).wo.mono fun _ m => .tail _ m)
  | .make _ _ b, l => sup b l
  | .opn r _ _ b, l => (Sup.one (.head _)).add ((sup b (l + 1)).wo.mono fun _ m => .tail _ m)
  | .offer a b, l => ((sup a l).mono fun _ m => List.mem_append_left _ m).or ((sup b l).mono fun _ m => List.mem_append_right _ m)
  | .pay r k a b, l => ((Sup.one (.head _)).add ((sup a l).box.mono fun _ m => .tail _ (List.mem_append_left _ m))).add ((sup b (l + 1)).wo.mono fun _ m => .tail _ (List.mem_append_right _ m))
  | .cut k _ a b, l => ((sup a l).box.mono fun _ m => List.mem_append_left _ m).add ((sup b (l + 1)).wo.mono fun _ m => List.mem_append_right _ m)
/-! a name that occurs once -/
def occ (x : Str) : Row → List (List Kd)
  | .own r => if r = .inr x then [[]] else []
  | .cite _ => []
  | .take b => occ x b
  | .pick r _ b => (if r = .inr x then [[]] else []) ++ occ x b
  | .make _ _ b => occ x b
  | .opn r _ _ b => (if r = .inr x then [[]] else []) ++ occ x b
  | .offer a b => occ x a ++ occ x b
  | .pay r k a b => (if r = .inr x then [[]] else []) ++ ((occ x a).map (k :: ·) ++ occ x b)
  | .cut k _ a b => (occ x a).map (k :: ·) ++ occ x b
def Kd.nst : Kd → Kd → Kd
  | .once, m => m
  | .st n k, .once => .st n k
  | .st n k, .st n' k' => .st (n * n') (k + k')
def nestK (bs : List Kd) : Kd := bs.foldr Kd.nst .once
def Kd.pr : Kd → Int × Int
  | .once => (1, 0)
  | .st n k => (n, k)
def bxs (bs : List Kd) : T3 := bs.foldr Kd.bx (1, 1, 0)
theorem bxs_pr : ∀ bs : List Kd, (bxs bs).2 = (nestK bs).pr
  | [] => rfl
  | k :: bs => by
    have ih := bxs_pr bs
    show (k.bx (bxs bs)).2 = (k.nst (nestK bs)).pr
    cases k with
    | once => exact ih
    | st n d =>
      show (n * (bxs bs).2.1, d + (bxs bs).2.2) = _
      rw [ih]
      cases nestK bs with
      | once => simp [Kd.pr, Kd.nst]
      | st n' d' => rfl
theorem oor_left {a : T3} (h : P3 a) : ∃ y, oor (some a) none = some (y, a.2) := by
  refine ⟨min a.1 0, ?_⟩
  unfold P3 at h
  simp only [oor, Option.getD_none, Option.getD_some, z3, Option.some.injEq, Prod.mk.injEq]
  refine ⟨trivial, ?_⟩
  ext
  · show max a.2.1 0 = a.2.1; omega
  · show max a.2.2 0 = a.2.2; omega
theorem oor_right {a : T3} (h : P3 a) : ∃ y, oor none (some a) = some (y, a.2) := by
  refine ⟨min 0 a.1, ?_⟩
  unfold P3 at h
  simp only [oor, Option.getD_none, Option.getD_some, z3, Option.some.injEq, Prod.mk.injEq]
  refine ⟨trivial, ?_⟩
  ext
  · show max 0 a.2.1 = a.2.1; omega
  · show max 0 a.2.2 = a.2.2; omega
/-- what an occurrence counts -/
def O1 (x : Str) (l : List (List Kd)) (f : CF) : Prop := (l = [] → f (.inr x) = none) ∧ ∀ bs, l = [bs] → ∃ y, f (.inr x) = some (y, (bxs bs).2)
theorem app_one {α : Type} {l m : List α} {y : α} (h : l ++ m = [y]) : (l = [y] ∧ m = []) ∨ (l = [] ∧ m = [y]) := by
  cases l with
  | nil => exact .inr ⟨rfl, h⟩
  | cons a l =>
    rw [List.cons_append] at h
    injection h with h1 h2
    subst h1
    cases l with
    | nil => exact .inl ⟨rfl, h2⟩
    | cons b l => cases h2
theorem O1.add {x : Str} {l m : List (List Kd)} {f g : CF} (hf : O1 x l f) (hg : O1 x m g) : O1 x (l ++ m) (cadd f g) := by
  refine ⟨fun h => ?_, fun bs h => ?_⟩
  · obtain ⟨h1, h2⟩ := List.append_eq_nil_iff.mp h
    show oadd _ _ = _
    rw [hf.1 h1, hg.1 h2]
    rfl
  · rcases app_one h with ⟨h1, h2⟩ | ⟨h1, h2⟩
    · obtain ⟨y, e⟩ := hf.2 bs h1
      exact ⟨y, by show oadd _ _ = _; rw [hg.1 h2, oadd_none, e]⟩
    · obtain ⟨y, e⟩ := hg.2 bs h2
      exact ⟨y, by show oadd _ _ = _; rw [hf.1 h1, e]; rfl⟩
theorem O1.or {x : Str} {l m : List (List Kd)} {f g : CF} (pf : Pos f) (pg : Pos g) (hf : O1 x l f) (hg : O1 x m g) : O1 x (l ++ m) (cor f g) := by
  refine ⟨fun h => ?_, fun bs h => ?_⟩
  · obtain ⟨h1, h2⟩ := List.append_eq_nil_iff.mp h
    show oor _ _ = _
    rw [hf.1 h1, hg.1 h2]
    rfl
  · rcases app_one h with ⟨h1, h2⟩ | ⟨h1, h2⟩
    · obtain ⟨y, e⟩ := hf.2 bs h1
      obtain ⟨z, e2⟩ := oor_left (pf _ _ e)
      exact ⟨z, by show oor _ _ = _; rw [hg.1 h2, e]; exact e2⟩
    · obtain ⟨y, e⟩ := hg.2 bs h2
      obtain ⟨z, e2⟩ := oor_right (pg _ _ e)
      exact ⟨z, by show oor _ _ = _; rw [hf.1 h1, e]; exact e2⟩
theorem O1.one (x : Str) (r : Key) : O1 x (if r = .inr x then [[]] else []) (cone r) := by
  by_cases h : r = .inr x
  · subst h
    rw [if_pos rfl]
    have e : cone (.inr x) (.inr x) = some (1, 1, 0) := if_pos rfl
    refine ⟨fun h => (by cases h), fun bs h => ⟨1, ?_⟩⟩
    injection h with h _
    subst h
    exact e
  · rw [if_neg h]
    have e : cone r (.inr x) = none := if_neg fun z => h z.symm
    exact ⟨fun _ => e, fun bs h => (by cases h)⟩
theorem O1.box {x : Str} {l : List (List Kd)} {f : CF} (k : Kd) (hf : O1 x l f) : O1 x (l.map (k :: ·)) (cbox k f) := by
  refine ⟨fun h => ?_, fun bs h => ?_⟩
  · show Option.map _ _ = _
    rw [hf.1 (List.map_eq_nil_iff.mp h)]
    rfl
  · cases l with
    | nil => cases h
    | cons b l =>
      rw [List.map_cons] at h
      injection h with h1 h2
      have e : l = [] := List.map_eq_nil_iff.mp h2
      subst e
      subst h1
      obtain ⟨y, e⟩ := hf.2 b rfl
      show ∃ z, Option.map _ _ = _
      rw [e]
      cases k with
      | once => exact ⟨y, rfl⟩
      | st n d => exact ⟨0, rfl⟩
theorem O1.wo {x : Str} {l : List (List Kd)} {f : CF} {i : Int} (hf : O1 x l f) : O1 x l (cwo i f) := by
  have e : cwo i f (.inr x) = f (.inr x) := if_neg (by intro z; cases z)
  unfold O1
  rw [e]
  exact hf
theorem O1.row (x : Str) : ∀ (t : Row) (l : Int), t.ok → O1 x (occ x t) (t.cnt l)
  | .own r, _, _ => O1.one x r
  | .cite _, _, _ => ⟨fun _ => rfl, fun bs h => by cases h⟩
  | .take b, l, h => (O1.row x b (l + 1) h).wo
  | .pick r _ b, l, h => (O1.one x r).add (O1.row x b (l + 1) h).wo
  | .make _ _ b, l, h => O1.row x b l h
  | .opn r _ _ b, l, h => (O1.one x r).add (O1.row x b (l + 1) h).wo
  | .offer a b, l, h => (O1.row x a l h.1).or (Row.pos l h.1) (Row.pos l h.2) (O1.row x b l h.2)
  | .pay r k a b, l, h => by
    show O1 x ((if r = .inr x then [[]] else []) ++ ((occ x a).map (k :: ·) ++ occ x b)) (cadd (cadd (cone r) (cbox k (a.cnt l))) (cwo l (b.cnt (l + 1))))
    rw [cadd_assoc]
    exact (O1.one x r).add (((O1.row x a l h.2.1).box k).add (O1.row x b (l + 1) h.2.2).wo)
  | .cut k _ a b, l, h => ((O1.row x a l h.2.1).box k).add (O1.row x b (l + 1) h.2.2).wo
/-! claims -/
structure Hold where
  nm : Str
  kd : Kd
  sn : Sn
def Hold.d (h : Hold) : PyData := .tuple [.str h.nm, h.kd.d, h.sn.d]
structure Clm where
  hs : List Hold
  goal : Sn
def Clm.d (c : Clm) : PyData := .tuple [.tuple (c.hs.map Hold.d), c.goal.d]
noncomputable instance : DecidableEq Kd := fun a b => Classical.propDecidable (a = b)
noncomputable instance : DecidableEq Sn := fun a b => Classical.propDecidable (a = b)
def Clm.row (c : Clm) (x : Str) : Option Hold := c.hs.find? fun h => decide (h.nm = x)
def Clm.without (c : Clm) (x : Str) : List Hold := c.hs.filter fun h => decide (h.nm ≠ x)
def Hold.kind (x : Str) (k : Kd) (h : Hold) : Hold := if h.nm = x then ⟨x, k, h.sn⟩ else h
/-- the holds with the kinds that the count needs -/
def fitH (f : CF) (h : Hold) : Option Hold := match h.kd with
  | .once => some h
  | .st _ _ => (f (.inr h.nm)).map fun t => ⟨h.nm, .st t.2.1 t.2.2, h.sn⟩
def Clm.fit (f : CF) (c : Clm) : Clm := ⟨c.hs.filterMap (fitH f), c.goal⟩
/-- how a question ends -/
inductive Ans where
  | unknown (x : Str)
  | room (x : Str)
  | told (d : PyData)
def Kd.plus : Kd → Kd → Option Kd
  | .st n k, .st n' k' => some (.st (n + n') (max k k'))
  | _, _ => none
def Clm.pool (c : Clm) (x y : Str) (k : Kd) : Clm := ⟨(c.without y).map (Hold.kind x k), c.goal⟩
def ren1 (x : Str) (r : Key) : Ren := [(.inr x, r)]
/-- what two holds made one are -/
noncomputable def Clm.joint (c : Clm) (x y : Str) : Option Kd := match c.row x, c.row y with
  | some g, some h => if x = y ∨ g.sn ≠ h.sn then none else g.kd.plus h.kd
  | _, _ => none
def pairD (c : Clm) (t : Row) : PyData := .tuple [c.d, t.d]
noncomputable def poolA (c : Clm) (t : Row) (x y : Str) : Ans := match c.row x, c.row y with
  | none, _ => .unknown x
  | some _, none => .unknown y
  | some _, some _ => match c.joint x y with
    | none => .room y
    | some k => .told (pairD (c.pool x y k) (t.mv 0 0 (ren1 y (.inr x))))
def Clm.lift (c : Clm) (x : Str) (h : Hold) : Clm := ⟨c.without x, .trade h.kd h.sn c.goal⟩
def liftR (t : Row) (x : Str) : Row := .take (t.mv 0 1 (ren1 x (.inl 0)))
def liftA (c : Clm) (t : Row) (x : Str) : Ans := match c.row x with
  | none => .unknown x
  | some h => .told (pairD (c.lift x h) (liftR t x))
def Kd.covers : Kd → Kd → Bool
  | _, .once => true
  | .once, .st _ _ => false
  | .st n k, .st n' k' => decide (n' ≤ n) && decide (k' ≤ k)
def wideA (c : Clm) (x : Str) (k : Kd) : Ans := match c.row x with
  | none => .unknown x
  | some h => if k.covers h.kd = true then .told (Clm.d ⟨c.hs.map (Hold.kind x k), c.goal⟩) else .room x
end HA

/-! Claims as data. -/
namespace HA
open PySem PySem.Spec PyProof.Rows L2
theorem name_lay {x : Str} (h : NameOk x) : (PyData.str x).canLay0 = true := by
  show PyData.strOk x = true
  unfold PyData.strOk
  rw [Array.all_eq_true]
  intro i hi
  have := h.all x.cps[i] (by show x.cps[i] ∈ x.cps.toList; exact Array.getElem_mem_toList hi)
  unfold isLD isLc at this
  simp only [Bool.or_eq_true, Bool.and_eq_true, decide_eq_true_eq] at this
  exact decide_eq_true (by omega)
theorem kd_eqv (a b : Kd) : PyData.eqv a.d b.d = decide (a = b) := by
  cases a with
  | once => cases b with
    | once => rw [decide_eq_true rfl]; decide +kernel
    | st n k => rw [decide_eq_false (by intro z; cases z)]; rfl
  | st n k => cases b with
    | once => rw [decide_eq_false (by intro z; cases z)]; rfl
    | st m j =>
      show ((n == m) && ((k == j) && true)) = _
      rw [Bool.and_true, Bool.eq_iff_iff, Bool.and_eq_true, beq_iff_eq, beq_iff_eq, decide_eq_true_iff]
      exact ⟨fun ⟨h1, h2⟩ => by rw [h1, h2], fun h => by cases h; exact ⟨rfl, rfl⟩⟩
theorem tag_ne {x y : Str} (h : (x == y) = false) (l m : List PyData) : PyData.eqv (.tuple (.str x :: l)) (.tuple (.str y :: m)) = false := by
  show ((x == y) && PyData.eqvAll l m) = false
  rw [h]; rfl
theorem sn_eqv : ∀ a b : Sn, PyData.eqv a.d b.d = decide (a = b)
  | .word x, .word y => by
    show ((("word" : Str) == "word") && ((x == y) && true)) = _
    rw [beq_self_eq_true, Bool.true_and, Bool.and_true, Bool.eq_iff_iff, beq_iff_eq, decide_eq_true_iff]
    exact ⟨fun h => by rw [h], fun h => by cases h; rfl⟩
  | .word x, .menu a b => by
    rw [decide_eq_false (by intro z; cases z)]
    exact tag_ne (by decide +kernel) _ _
  | .word x, .trade k a b => by
    rw [decide_eq_false (by intro z; cases z)]
    exact tag_ne (by decide +kernel) _ _
  | .menu a b, .word x => by
    rw [decide_eq_false (by intro z; cases z)]
    exact tag_ne (by decide +kernel) _ _
  | .menu a b, .trade k c d => by
    rw [decide_eq_false (by intro z; cases z)]
    exact tag_ne (by decide +kernel) _ _
  | .menu a b, .menu c d => by
    show ((("menu" : Str) == "menu") && (PyData.eqv a.d c.d && (PyData.eqv b.d d.d && true))) = _
    rw [beq_self_eq_true, Bool.true_and, Bool.and_true, sn_eqv a c, sn_eqv b d, Bool.eq_iff_iff, Bool.and_eq_true, decide_eq_true_iff, decide_eq_true_iff, decide_eq_true_iff]
    exact ⟨fun ⟨h1, h2⟩ => by rw [h1, h2], fun h => by cases h; exact ⟨rfl, rfl⟩⟩
  | .trade k a b, .word x => by
    rw [decide_eq_false (by intro z; cases z)]
    exact tag_ne (by decide +kernel) _ _
  | .trade k a b, .menu c d => by
    rw [decide_eq_false (by intro z; cases z)]
    exact tag_ne (by decide +kernel) _ _
  | .trade k a b, .trade j c d => by
    show ((("trade" : Str) == "trade") && (PyData.eqv k.d j.d && (PyData.eqv a.d c.d && (PyData.eqv b.d d.d && true)))) = _
    rw [beq_self_eq_true, Bool.true_and, Bool.and_true, kd_eqv k j, sn_eqv a c, sn_eqv b d, Bool.eq_iff_iff, Bool.and_eq_true, Bool.and_eq_true, decide_eq_true_iff, decide_eq_true_iff, decide_eq_true_iff, decide_eq_true_iff]
    exact ⟨fun ⟨h1, h2, h3⟩ => by rw [h1, h2, h3], fun h => by cases h; exact ⟨rfl, rfl, rfl⟩⟩
/-- a sentence that may be compared -/
def Sn.ok (s : Sn) : Prop := s.d.canLay0 = true ∧ s.d.depth ≤ 10
theorem Sn.ok.sh {s : Sn} (h : s.ok) : SeqAt.shaped s.d = true := by
  unfold SeqAt.shaped
  rw [h.1, decide_eq_true (show s.d.depth ≤ 64 by have := h.2; omega)]
  rfl
theorem kd_lay (k : Kd) : k.d.canLay0 = true := by
  cases k with
  | once => decide +kernel
  | st n k => rfl
def Hold.ok (h : Hold) : Prop := NameOk h.nm ∧ h.kd.ok ∧ h.sn.ok
/-- kinds with numbers that may stand, however great -/
def Kd.pos : Kd → Prop
  | .once => True
  | .st n k => 1 ≤ n ∧ 0 ≤ k
theorem Kd.ok.ps {k : Kd} (h : k.ok) : k.pos := by
  cases k with
  | once => trivial
  | st n k => exact ⟨h.1, h.2.2.1⟩
/-- a claim that may be asked -/
structure Clm.ok (c : Clm) : Prop where
  few : c.hs.length ≤ 30
  all : ∀ h ∈ c.hs, h.sn.ok ∧ h.kd.pos
theorem row_cons (h : Hold) (l : List Hold) (g : Sn) (x : Str) : Clm.row ⟨h :: l, g⟩ x = if h.nm = x then some h else Clm.row ⟨l, g⟩ x := by
  unfold Clm.row
  rw [List.find?_cons]
  by_cases e : h.nm = x
  · rw [if_pos e, decide_eq_true e]
  · rw [if_neg e, decide_eq_false e]
theorem row_mem {c : Clm} {x : Str} {h : Hold} (e : c.row x = some h) : h ∈ c.hs ∧ h.nm = x := ⟨List.mem_of_find?_eq_some e, of_decide_eq_true (List.find?_some (p := fun h : Hold => decide (h.nm = x)) e)⟩
theorem Kd.nst_eq (a b : Kd) : (a = .once → a.nst b = b) ∧ (b = .once → a.nst b = a) := by
  refine ⟨fun e => by subst e; rfl, fun e => by subst e; cases a <;> rfl⟩
end HA

/-! The text by places. -/
namespace HA
open PySem PySem.Spec PyProof.Rows L2
def topS (i : Nat) : Stmt := (PySem.Challenge.pw_heldanswers_k10_claims_mended_by_form).main.body.getD i (.Pass ⟨0, 0, 0, 0⟩)
abbrev s__wall : Stmt := topS 0
abbrev N__wall : List Str := ["k"]
theorem sc__wall : FnScope N__wall ["k"] (defScope s__wall) := ⟨rfl, rfl, rfl, by decide +kernel, rfl, by decide +kernel, by decide +kernel⟩
abbrev s_is_number : Stmt := topS 7
abbrev N_is_number : List Str := ["value"]
theorem sc_is_number : FnScope N_is_number ["value"] (defScope s_is_number) := ⟨rfl, rfl, rfl, by decide +kernel, rfl, by decide +kernel, by decide +kernel⟩
abbrev s_is_kind : Stmt := topS 8
abbrev N_is_kind : List Str := ["value"]
theorem sc_is_kind : FnScope N_is_kind ["value"] (defScope s_is_kind) := ⟨rfl, rfl, rfl, by decide +kernel, rfl, by decide +kernel, by decide +kernel⟩
abbrev s_nested : Stmt := topS 9
abbrev N_nested : List Str := ["outer", "inner"]
theorem sc_nested : FnScope N_nested ["outer", "inner"] (defScope s_nested) := ⟨rfl, rfl, rfl, by decide +kernel, rfl, by decide +kernel, by decide +kernel⟩
abbrev s_pooled : Stmt := topS 10
abbrev N_pooled : List Str := ["first", "second", "kind"]
theorem sc_pooled : FnScope N_pooled ["first", "second"] (defScope s_pooled) := ⟨rfl, rfl, rfl, by decide +kernel, rfl, by decide +kernel, by decide +kernel⟩
abbrev s_covers : Stmt := topS 11
abbrev N_covers : List Str := ["room", "kind"]
theorem sc_covers : FnScope N_covers ["room", "kind"] (defScope s_covers) := ⟨rfl, rfl, rfl, by decide +kernel, rfl, by decide +kernel, by decide +kernel⟩
abbrev s_trade : Stmt := topS 13
abbrev N_trade : List Str := ["price", "goods", "kind"]
theorem sc_trade : FnScope N_trade ["price", "goods", "kind"] (defScope s_trade) := ⟨rfl, rfl, rfl, by decide +kernel, rfl, by decide +kernel, by decide +kernel⟩
abbrev s_hold_of : Stmt := topS 15
abbrev N_hold_of : List Str := ["claim", "name", "other", "kind", "sentence"]
theorem sc_hold_of : FnScope N_hold_of ["claim", "name"] (defScope s_hold_of) := ⟨rfl, rfl, rfl, by decide +kernel, rfl, by decide +kernel, by decide +kernel⟩
abbrev s_without_hold : Stmt := topS 16
abbrev N_without_hold : List Str := ["claim", "name", "hold"]
theorem sc_without_hold : FnScope N_without_hold ["claim", "name"] (defScope s_without_hold) := ⟨rfl, rfl, rfl, by decide +kernel, rfl, by decide +kernel, by decide +kernel⟩
abbrev s_added : Stmt := topS 19
abbrev N_added : List Str := ["first", "second", "total", "ref"]
theorem sc_added : FnScope N_added ["first", "second"] (defScope s_added) := ⟨rfl, rfl, rfl, by decide +kernel, rfl, by decide +kernel, by decide +kernel⟩
abbrev s_either : Stmt := topS 20
abbrev N_either : List Str := ["first", "second", "total", "ref"]
theorem sc_either : FnScope N_either ["first", "second"] (defScope s_either) := ⟨rfl, rfl, rfl, by decide +kernel, rfl, by decide +kernel, by decide +kernel⟩
abbrev s_boxed_counts : Stmt := topS 21
abbrev N_boxed_counts : List Str := ["found", "kind", "ref"]
theorem sc_boxed_counts : FnScope N_boxed_counts ["found", "kind"] (defScope s_boxed_counts) := ⟨rfl, rfl, rfl, by decide +kernel, rfl, by decide +kernel, by decide +kernel⟩
abbrev s_without : Stmt := topS 22
abbrev N_without : List Str := ["found", "ref", "other"]
theorem sc_without : FnScope N_without ["found", "ref"] (defScope s_without) := ⟨rfl, rfl, rfl, by decide +kernel, rfl, by decide +kernel, by decide +kernel⟩
abbrev s_counts : Stmt := topS 23
abbrev N_counts : List Str := ["derivation", "level", "name", "body", "found"]
theorem sc_counts : FnScope N_counts ["derivation", "level"] (defScope s_counts) := ⟨rfl, rfl, rfl, by decide +kernel, rfl, by decide +kernel, by decide +kernel⟩
abbrev s_premises : Stmt := topS 26
abbrev N_premises : List Str := ["derivation", "count"]
theorem sc_premises : FnScope N_premises ["derivation"] (defScope s_premises) := ⟨rfl, rfl, rfl, by decide +kernel, rfl, by decide +kernel, by decide +kernel⟩
abbrev s_rebuilt : Stmt := topS 27
abbrev N_rebuilt : List Str := ["derivation", "parts", "count"]
theorem sc_rebuilt : FnScope N_rebuilt ["derivation", "parts"] (defScope s_rebuilt) := ⟨rfl, rfl, rfl, by decide +kernel, rfl, by decide +kernel, by decide +kernel⟩
abbrev s_refers_to : Stmt := topS 28
abbrev N_refers_to : List Str := ["derivation"]
theorem sc_refers_to : FnScope N_refers_to ["derivation"] (defScope s_refers_to) := ⟨rfl, rfl, rfl, by decide +kernel, rfl, by decide +kernel, by decide +kernel⟩
abbrev s_moved_ref : Stmt := topS 30
abbrev N_moved_ref : List Str := ["ref", "old", "new", "renamed"]
theorem sc_moved_ref : FnScope N_moved_ref ["ref", "old", "new", "renamed"] (defScope s_moved_ref) := ⟨rfl, rfl, rfl, by decide +kernel, rfl, by decide +kernel, by decide +kernel⟩
abbrev s_moved : Stmt := topS 31
abbrev N_moved : List Str := ["derivation", "old", "new", "renamed", "parts", "result", "ref", "premise"]
theorem sc_moved : FnScope N_moved ["derivation", "old", "new", "renamed"] (defScope s_moved) := ⟨rfl, rfl, rfl, by decide +kernel, rfl, by decide +kernel, by decide +kernel⟩
abbrev s_with_kind : Stmt := topS 33
abbrev N_with_kind : List Str := ["claim", "name", "kind", "holds", "hold"]
theorem sc_with_kind : FnScope N_with_kind ["claim", "name", "kind"] (defScope s_with_kind) := ⟨rfl, rfl, rfl, by decide +kernel, rfl, by decide +kernel, by decide +kernel⟩
abbrev s_with_room : Stmt := topS 34
abbrev N_with_room : List Str := ["claim", "name", "kind"]
theorem sc_with_room : FnScope N_with_room ["claim", "name", "kind"] (defScope s_with_room) := ⟨rfl, rfl, rfl, by decide +kernel, rfl, by decide +kernel, by decide +kernel⟩
abbrev s_pooled_holds : Stmt := topS 35
abbrev N_pooled_holds : List Str := ["claim", "derivation", "first", "second", "kind", "sentence", "other_kind", "other_sentence", "joined"]
theorem sc_pooled_holds : FnScope N_pooled_holds ["claim", "derivation", "first", "second"] (defScope s_pooled_holds) := ⟨rfl, rfl, rfl, by decide +kernel, rfl, by decide +kernel, by decide +kernel⟩
abbrev s_least_kinds : Stmt := topS 36
abbrev N_least_kinds : List Str := ["claim", "derivation", "found", "holds", "name", "kind", "sentence"]
theorem sc_least_kinds : FnScope N_least_kinds ["claim", "derivation"] (defScope s_least_kinds) := ⟨rfl, rfl, rfl, by decide +kernel, rfl, by decide +kernel, by decide +kernel⟩
abbrev s_abstracted : Stmt := topS 37
abbrev N_abstracted : List Str := ["claim", "derivation", "name", "kind", "sentence", "holds", "goal"]
theorem sc_abstracted : FnScope N_abstracted ["claim", "derivation", "name"] (defScope s_abstracted) := ⟨rfl, rfl, rfl, by decide +kernel, rfl, by decide +kernel, by decide +kernel⟩
abbrev s__law_cell : Stmt := topS 39
abbrev N__law_cell : List Str := ["script", "k"]
theorem sc__law_cell : FnScope N__law_cell ["script", "k"] (defScope s__law_cell) := ⟨rfl, rfl, rfl, by decide +kernel, rfl, by decide +kernel, by decide +kernel⟩
abbrev s__law_pool : Stmt := topS 40
abbrev N__law_pool : List Str := ["script", "k", "cell"]
theorem sc__law_pool : FnScope N__law_pool ["script", "k"] (defScope s__law_pool) := ⟨rfl, rfl, rfl, by decide +kernel, rfl, by decide +kernel, by decide +kernel⟩
abbrev s__law_next : Stmt := topS 41
abbrev N__law_next : List Str := ["pool", "many", "digit", "mixed"]
theorem sc__law_next : FnScope N__law_next ["pool", "many"] (defScope s__law_next) := ⟨rfl, rfl, rfl, by decide +kernel, rfl, by decide +kernel, by decide +kernel⟩
abbrev s__law_new_name : Stmt := topS 42
abbrev N__law_new_name : List Str := ["pool", "taken", "signs", "pick", "old", "at", "name", "k"]
theorem sc__law_new_name : FnScope N__law_new_name ["pool", "taken"] (defScope s__law_new_name) := ⟨rfl, rfl, rfl, by decide +kernel, rfl, by decide +kernel, by decide +kernel⟩
abbrev s__law_sentence : Stmt := topS 43
abbrev N__law_sentence : List Str := ["state", "depth", "pool", "pick", "one", "two"]
theorem sc__law_sentence : FnScope N__law_sentence ["state", "depth"] (defScope s__law_sentence) := ⟨rfl, rfl, rfl, by decide +kernel, rfl, by decide +kernel, by decide +kernel⟩
abbrev s__law_merge : Stmt := topS 44
abbrev N__law_merge : List Str := ["one", "two", "either_v", "total", "ref", "left", "right"]
theorem sc__law_merge : FnScope N__law_merge ["one", "two", "either_v"] (defScope s__law_merge) := ⟨rfl, rfl, rfl, by decide +kernel, rfl, by decide +kernel, by decide +kernel⟩
abbrev s__law_box : Stmt := topS 45
abbrev N__law_box : List Str := ["found", "mode", "gone", "total", "ref", "told"]
theorem sc__law_box : FnScope N__law_box ["found", "mode", "gone"] (defScope s__law_box) := ⟨rfl, rfl, rfl, by decide +kernel, rfl, by decide +kernel, by decide +kernel⟩
abbrev s__law_counts : Stmt := topS 46
abbrev N__law_counts : List Str := ["tree", "level", "name", "found"]
theorem sc__law_counts : FnScope N__law_counts ["tree", "level"] (defScope s__law_counts) := ⟨rfl, rfl, rfl, by decide +kernel, rfl, by decide +kernel, by decide +kernel⟩
abbrev s__law_row : Stmt := topS 47
abbrev N__law_row : List Str := ["item", "names"]
theorem sc__law_row : FnScope N__law_row ["item"] (defScope s__law_row) := ⟨rfl, rfl, rfl, by decide +kernel, rfl, by decide +kernel, by decide +kernel⟩
abbrev s__law_parts : Stmt := topS 48
abbrev N__law_parts : List Str := ["tree", "item"]
theorem sc__law_parts : FnScope N__law_parts ["tree"] (defScope s__law_parts) := ⟨rfl, rfl, rfl, by decide +kernel, rfl, by decide +kernel, by decide +kernel⟩
abbrev s__law_moved : Stmt := topS 49
abbrev N__law_moved : List Str := ["tree", "old", "new", "names", "out", "k", "item"]
theorem sc__law_moved : FnScope N__law_moved ["tree", "old", "new", "names"] (defScope s__law_moved) := ⟨rfl, rfl, rfl, by decide +kernel, rfl, by decide +kernel, by decide +kernel⟩
abbrev s__law_mode : Stmt := topS 50
abbrev N__law_mode : List Str := ["pool", "room", "pick"]
theorem sc__law_mode : FnScope N__law_mode ["pool", "room"] (defScope s__law_mode) := ⟨rfl, rfl, rfl, by decide +kernel, rfl, by decide +kernel, by decide +kernel⟩
abbrev s__law_ref : Stmt := topS 51
abbrev N__law_ref : List Str := ["state", "level", "pool"]
theorem sc__law_ref : FnScope N__law_ref ["state", "level"] (defScope s__law_ref) := ⟨rfl, rfl, rfl, by decide +kernel, rfl, by decide +kernel, by decide +kernel⟩
abbrev s__law_called : Stmt := topS 52
abbrev N__law_called : List Str := ["state"]
theorem sc__law_called : FnScope N__law_called ["state"] (defScope s__law_called) := ⟨rfl, rfl, rfl, by decide +kernel, rfl, by decide +kernel, by decide +kernel⟩
abbrev s__law_free : Stmt := topS 53
abbrev N__law_free : List Str := ["state", "level", "room", "depth", "pool", "pick", "one", "side", "row", "mode", "inner", "source"]
theorem sc__law_free : FnScope N__law_free ["state", "level", "room", "depth"] (defScope s__law_free) := ⟨rfl, rfl, rfl, by decide +kernel, rfl, by decide +kernel, by decide +kernel⟩
abbrev s__law_claim : Stmt := topS 54
abbrev N__law_claim : List Str := ["state", "many", "pool", "holds", "k", "name", "sentence", "pick", "mode"]
theorem sc__law_claim : FnScope N__law_claim ["state", "many"] (defScope s__law_claim) := ⟨rfl, rfl, rfl, by decide +kernel, rfl, by decide +kernel, by decide +kernel⟩
abbrev s__law_group : Stmt := topS 55
abbrev N__law_group : List Str := ["claim", "best", "row", "names", "other"]
theorem sc__law_group : FnScope N__law_group ["claim"] (defScope s__law_group) := ⟨rfl, rfl, rfl, by decide +kernel, rfl, by decide +kernel, by decide +kernel⟩
abbrev s__law_begin : Stmt := topS 56
abbrev N__law_begin : List Str := ["script", "pool", "named", "words", "state", "many", "claim", "ghosts", "names", "group", "turn", "pick", "k", "row"]
theorem sc__law_begin : FnScope N__law_begin ["script"] (defScope s__law_begin) := ⟨rfl, rfl, rfl, by decide +kernel, rfl, by decide +kernel, by decide +kernel⟩
abbrev s__law_same : Stmt := topS 57
abbrev N__law_same : List Str := ["told", "due", "k"]
theorem sc__law_same : FnScope N__law_same ["told", "due"] (defScope s__law_same) := ⟨rfl, rfl, rfl, by decide +kernel, rfl, by decide +kernel, by decide +kernel⟩
abbrev s__law_fitted : Stmt := topS 58
abbrev N__law_fitted : List Str := ["claim", "tree", "found", "rows", "row"]
theorem sc__law_fitted : FnScope N__law_fitted ["claim", "tree"] (defScope s__law_fitted) := ⟨rfl, rfl, rfl, by decide +kernel, rfl, by decide +kernel, by decide +kernel⟩
abbrev s__law_least : Stmt := topS 59
abbrev N__law_least : List Str := ["claim", "tree", "due"]
theorem sc__law_least : FnScope N__law_least ["claim", "tree"] (defScope s__law_least) := ⟨rfl, rfl, rfl, by decide +kernel, rfl, by decide +kernel, by decide +kernel⟩
abbrev s__law_boxes : Stmt := topS 60
abbrev N__law_boxes : List Str := ["tree", "boxes", "found", "row", "parts", "k", "inner"]
theorem sc__law_boxes : FnScope N__law_boxes ["tree", "boxes", "found"] (defScope s__law_boxes) := ⟨rfl, rfl, rfl, by decide +kernel, rfl, by decide +kernel, by decide +kernel⟩
abbrev s__law_nested : Stmt := topS 61
abbrev N__law_nested : List Str := ["boxes", "told", "mode", "box", "want"]
theorem sc__law_nested : FnScope N__law_nested ["boxes", "told"] (defScope s__law_nested) := ⟨rfl, rfl, rfl, by decide +kernel, rfl, by decide +kernel, by decide +kernel⟩
abbrev s__law_singles : Stmt := topS 62
abbrev N__law_singles : List Str := ["claim", "tree", "row", "told", "found", "total", "name"]
theorem sc__law_singles : FnScope N__law_singles ["claim", "tree"] (defScope s__law_singles) := ⟨rfl, rfl, rfl, by decide +kernel, rfl, by decide +kernel, by decide +kernel⟩
abbrev s__law_row_of : Stmt := topS 63
abbrev N__law_row_of : List Str := ["claim", "name", "row"]
theorem sc__law_row_of : FnScope N__law_row_of ["claim", "name"] (defScope s__law_row_of) := ⟨rfl, rfl, rfl, by decide +kernel, rfl, by decide +kernel, by decide +kernel⟩
abbrev s__law_pooled : Stmt := topS 64
abbrev N__law_pooled : List Str := ["claim", "tree", "first", "second", "one", "two", "mode", "holds", "row"]
theorem sc__law_pooled : FnScope N__law_pooled ["claim", "tree", "first", "second"] (defScope s__law_pooled) := ⟨rfl, rfl, rfl, by decide +kernel, rfl, by decide +kernel, by decide +kernel⟩
abbrev s__law_taken : Stmt := topS 65
abbrev N__law_taken : List Str := ["claim", "tree", "name", "row", "rest", "goal", "other"]
theorem sc__law_taken : FnScope N__law_taken ["claim", "tree", "name"] (defScope s__law_taken) := ⟨rfl, rfl, rfl, by decide +kernel, rfl, by decide +kernel, by decide +kernel⟩
abbrev s__law_widened : Stmt := topS 66
abbrev N__law_widened : List Str := ["claim", "name", "mode", "row", "had", "holds", "other"]
theorem sc__law_widened : FnScope N__law_widened ["claim", "name", "mode"] (defScope s__law_widened) := ⟨rfl, rfl, rfl, by decide +kernel, rfl, by decide +kernel, by decide +kernel⟩
abbrev s__law_tried : Stmt := topS 67
abbrev N__law_tried : List Str := ["form", "claim", "tree", "one", "two", "told", "e"]
theorem sc__law_tried : FnScope N__law_tried ["form", "claim", "tree", "one", "two"] (defScope s__law_tried) := ⟨rfl, rfl, rfl, by decide +kernel, rfl, by decide +kernel, by decide +kernel⟩
abbrev s__law_agrees : Stmt := topS 68
abbrev N__law_agrees : List Str := ["told", "due"]
theorem sc__law_agrees : FnScope N__law_agrees ["told", "due"] (defScope s__law_agrees) := ⟨rfl, rfl, rfl, by decide +kernel, rfl, by decide +kernel, by decide +kernel⟩
abbrev s__law_pairs : Stmt := topS 69
abbrev N__law_pairs : List Str := ["state", "pool", "names", "group", "found", "k", "one"]
theorem sc__law_pairs : FnScope N__law_pairs ["state"] (defScope s__law_pairs) := ⟨rfl, rfl, rfl, by decide +kernel, rfl, by decide +kernel, by decide +kernel⟩
abbrev s__law_joins : Stmt := topS 70
abbrev N__law_joins : List Str := ["state", "claim", "tree", "pair", "due", "made"]
theorem sc__law_joins : FnScope N__law_joins ["state"] (defScope s__law_joins) := ⟨rfl, rfl, rfl, by decide +kernel, rfl, by decide +kernel, by decide +kernel⟩
abbrev s__law_three : Stmt := topS 71
abbrev N__law_three : List Str := ["state", "group", "last", "a", "b", "c", "road", "made", "pair", "due"]
theorem sc__law_three : FnScope N__law_three ["state"] (defScope s__law_three) := ⟨rfl, rfl, rfl, by decide +kernel, rfl, by decide +kernel, by decide +kernel⟩
abbrev s__law_lifted : Stmt := topS 72
abbrev N__law_lifted : List Str := ["state", "pool", "names", "claim", "tree", "one", "two", "pair", "due", "made", "more"]
theorem sc__law_lifted : FnScope N__law_lifted ["state"] (defScope s__law_lifted) := ⟨rfl, rfl, rfl, by decide +kernel, rfl, by decide +kernel, by decide +kernel⟩
abbrev s__law_given : Stmt := topS 73
abbrev N__law_given : List Str := ["pool", "claim", "name", "row", "pick", "more"]
theorem sc__law_given : FnScope N__law_given ["pool", "claim", "name"] (defScope s__law_given) := ⟨rfl, rfl, rfl, by decide +kernel, rfl, by decide +kernel, by decide +kernel⟩
abbrev s__law_rooms : Stmt := topS 74
abbrev N__law_rooms : List Str := ["state", "pool", "names", "claim", "k", "name", "mode"]
theorem sc__law_rooms : FnScope N__law_rooms ["state"] (defScope s__law_rooms) := ⟨rfl, rfl, rfl, by decide +kernel, rfl, by decide +kernel, by decide +kernel⟩
abbrev s_law : Stmt := topS 75
abbrev N_law : List Str := ["script", "state", "claim", "tree"]
theorem sc_law : FnScope N_law ["script"] (defScope s_law) := ⟨rfl, rfl, rfl, by decide +kernel, rfl, by decide +kernel, by decide +kernel⟩
def inS (c : Stmt) (j : Nat) : Stmt := match c with
  | .ClassDef _ _ _ body _ _ _ _ _ _ _ => body.getD j (.Pass ⟨0, 0, 0, 0⟩)
  | _ => .Pass ⟨0, 0, 0, 0⟩
abbrev s_Count_init : Stmt := inS (topS 18) 0
abbrev N_Count_init : List Str := ["self", "least", "most", "days"]
theorem sc_Count_init : FnScope N_Count_init ["self", "least", "most", "days"] (defScope s_Count_init) := ⟨rfl, rfl, rfl, by decide +kernel, rfl, by decide +kernel, by decide +kernel⟩
abbrev s_Count_add : Stmt := inS (topS 18) 1
abbrev N_Count_add : List Str := ["self", "other"]
theorem sc_Count_add : FnScope N_Count_add ["self", "other"] (defScope s_Count_add) := ⟨rfl, rfl, rfl, by decide +kernel, rfl, by decide +kernel, by decide +kernel⟩
abbrev s_Count_or : Stmt := inS (topS 18) 2
abbrev N_Count_or : List Str := ["self", "other", "least"]
theorem sc_Count_or : FnScope N_Count_or ["self", "other"] (defScope s_Count_or) := ⟨rfl, rfl, rfl, by decide +kernel, rfl, by decide +kernel, by decide +kernel⟩
abbrev s_Count_boxed : Stmt := inS (topS 18) 3
abbrev N_Count_boxed : List Str := ["self", "kind"]
theorem sc_Count_boxed : FnScope N_Count_boxed ["self", "kind"] (defScope s_Count_boxed) := ⟨rfl, rfl, rfl, by decide +kernel, rfl, by decide +kernel, by decide +kernel⟩
abbrev s_UnknownName : Stmt := inS (topS 3) 0
abbrev s_NoRoom : Stmt := inS (topS 4) 0
theorem sc_UnknownName : FnScope ["self", "name"] ["self", "name"] (defScope s_UnknownName) := ⟨rfl, rfl, rfl, by decide +kernel, rfl, by decide +kernel, by decide +kernel⟩
theorem sc_NoRoom : FnScope ["self", "name"] ["self", "name"] (defScope s_NoRoom) := ⟨rfl, rfl, rfl, by decide +kernel, rfl, by decide +kernel, by decide +kernel⟩
/-- the places of the defs, and the built-ins that stand -/
structure Tx (K : PySem.W.Frag) (w : World) (mg : Str → Option Value) where
  a__wall : Addr
  d__wall : FuncData
  F__wall : Fun K "_wall" "_wall" s__wall a__wall d__wall
  g__wall : mg "_wall" = some (.ref a__wall)
  b__wall : Binds K d__wall ["k"] []
  a_is_number : Addr
  d_is_number : FuncData
  F_is_number : Fun K "is_number" "is_number" s_is_number a_is_number d_is_number
  g_is_number : mg "is_number" = some (.ref a_is_number)
  b_is_number : Binds K d_is_number ["value"] []
  a_is_kind : Addr
  d_is_kind : FuncData
  F_is_kind : Fun K "is_kind" "is_kind" s_is_kind a_is_kind d_is_kind
  g_is_kind : mg "is_kind" = some (.ref a_is_kind)
  b_is_kind : Binds K d_is_kind ["value"] []
  a_nested : Addr
  d_nested : FuncData
  F_nested : Fun K "nested" "nested" s_nested a_nested d_nested
  g_nested : mg "nested" = some (.ref a_nested)
  b_nested : Binds K d_nested ["outer", "inner"] []
  a_pooled : Addr
  d_pooled : FuncData
  F_pooled : Fun K "pooled" "pooled" s_pooled a_pooled d_pooled
  g_pooled : mg "pooled" = some (.ref a_pooled)
  b_pooled : Binds K d_pooled ["first", "second"] []
  a_covers : Addr
  d_covers : FuncData
  F_covers : Fun K "covers" "covers" s_covers a_covers d_covers
  g_covers : mg "covers" = some (.ref a_covers)
  b_covers : Binds K d_covers ["room", "kind"] []
  a_trade : Addr
  d_trade : FuncData
  F_trade : Fun K "trade" "trade" s_trade a_trade d_trade
  g_trade : mg "trade" = some (.ref a_trade)
  kb_trade : KBn K d_trade ["price", "goods", "kind"] 2 ["kind"] (fun us ws => us ++ ws) (fun vs zs => vs ++ zs)
  a_hold_of : Addr
  d_hold_of : FuncData
  F_hold_of : Fun K "hold_of" "hold_of" s_hold_of a_hold_of d_hold_of
  g_hold_of : mg "hold_of" = some (.ref a_hold_of)
  b_hold_of : Binds K d_hold_of ["claim", "name"] []
  a_without_hold : Addr
  d_without_hold : FuncData
  F_without_hold : Fun K "without_hold" "without_hold" s_without_hold a_without_hold d_without_hold
  g_without_hold : mg "without_hold" = some (.ref a_without_hold)
  b_without_hold : Binds K d_without_hold ["claim", "name"] []
  a_added : Addr
  d_added : FuncData
  F_added : Fun K "added" "added" s_added a_added d_added
  g_added : mg "added" = some (.ref a_added)
  b_added : Binds K d_added ["first", "second"] []
  a_either : Addr
  d_either : FuncData
  F_either : Fun K "either" "either" s_either a_either d_either
  g_either : mg "either" = some (.ref a_either)
  b_either : Binds K d_either ["first", "second"] []
  a_boxed_counts : Addr
  d_boxed_counts : FuncData
  F_boxed_counts : Fun K "boxed_counts" "boxed_counts" s_boxed_counts a_boxed_counts d_boxed_counts
  g_boxed_counts : mg "boxed_counts" = some (.ref a_boxed_counts)
  b_boxed_counts : Binds K d_boxed_counts ["found", "kind"] []
  a_without : Addr
  d_without : FuncData
  F_without : Fun K "without" "without" s_without a_without d_without
  g_without : mg "without" = some (.ref a_without)
  b_without : Binds K d_without ["found", "ref"] []
  a_counts : Addr
  d_counts : FuncData
  F_counts : FunD K "counts" "counts" (defArgs s_counts) (defBody s_counts) (defScope s_counts) [V.int 0] [] a_counts d_counts
  g_counts : mg "counts" = some (.ref a_counts)
  b_counts : Binds K d_counts ["derivation", "level"] []
  a_premises : Addr
  d_premises : FuncData
  F_premises : Fun K "premises" "premises" s_premises a_premises d_premises
  g_premises : mg "premises" = some (.ref a_premises)
  b_premises : Binds K d_premises ["derivation"] []
  a_rebuilt : Addr
  d_rebuilt : FuncData
  F_rebuilt : Fun K "rebuilt" "rebuilt" s_rebuilt a_rebuilt d_rebuilt
  g_rebuilt : mg "rebuilt" = some (.ref a_rebuilt)
  b_rebuilt : Binds K d_rebuilt ["derivation", "parts"] []
  a_refers_to : Addr
  d_refers_to : FuncData
  F_refers_to : Fun K "refers_to" "refers_to" s_refers_to a_refers_to d_refers_to
  g_refers_to : mg "refers_to" = some (.ref a_refers_to)
  b_refers_to : Binds K d_refers_to ["derivation"] []
  a_moved_ref : Addr
  d_moved_ref : FuncData
  F_moved_ref : Fun K "moved_ref" "moved_ref" s_moved_ref a_moved_ref d_moved_ref
  g_moved_ref : mg "moved_ref" = some (.ref a_moved_ref)
  b_moved_ref : Binds K d_moved_ref ["ref", "old", "new", "renamed"] []
  a_moved : Addr
  d_moved : FuncData
  F_moved : Fun K "moved" "moved" s_moved a_moved d_moved
  g_moved : mg "moved" = some (.ref a_moved)
  b_moved : Binds K d_moved ["derivation", "old", "new", "renamed"] []
  a_with_kind : Addr
  d_with_kind : FuncData
  F_with_kind : Fun K "with_kind" "with_kind" s_with_kind a_with_kind d_with_kind
  g_with_kind : mg "with_kind" = some (.ref a_with_kind)
  b_with_kind : Binds K d_with_kind ["claim", "name", "kind"] []
  a_with_room : Addr
  d_with_room : FuncData
  F_with_room : Fun K "with_room" "with_room" s_with_room a_with_room d_with_room
  g_with_room : mg "with_room" = some (.ref a_with_room)
  b_with_room : Binds K d_with_room ["claim", "name", "kind"] []
  a_pooled_holds : Addr
  d_pooled_holds : FuncData
  F_pooled_holds : Fun K "pooled_holds" "pooled_holds" s_pooled_holds a_pooled_holds d_pooled_holds
  g_pooled_holds : mg "pooled_holds" = some (.ref a_pooled_holds)
  b_pooled_holds : Binds K d_pooled_holds ["claim", "derivation", "first", "second"] []
  a_least_kinds : Addr
  d_least_kinds : FuncData
  F_least_kinds : Fun K "least_kinds" "least_kinds" s_least_kinds a_least_kinds d_least_kinds
  g_least_kinds : mg "least_kinds" = some (.ref a_least_kinds)
  b_least_kinds : Binds K d_least_kinds ["claim", "derivation"] []
  a_abstracted : Addr
  d_abstracted : FuncData
  F_abstracted : Fun K "abstracted" "abstracted" s_abstracted a_abstracted d_abstracted
  g_abstracted : mg "abstracted" = some (.ref a_abstracted)
  b_abstracted : Binds K d_abstracted ["claim", "derivation", "name"] []
  a__law_cell : Addr
  d__law_cell : FuncData
  F__law_cell : Fun K "_law_cell" "_law_cell" s__law_cell a__law_cell d__law_cell
  g__law_cell : mg "_law_cell" = some (.ref a__law_cell)
  b__law_cell : Binds K d__law_cell ["script", "k"] []
  a__law_pool : Addr
  d__law_pool : FuncData
  F__law_pool : Fun K "_law_pool" "_law_pool" s__law_pool a__law_pool d__law_pool
  g__law_pool : mg "_law_pool" = some (.ref a__law_pool)
  b__law_pool : Binds K d__law_pool ["script", "k"] []
  a__law_next : Addr
  d__law_next : FuncData
  F__law_next : Fun K "_law_next" "_law_next" s__law_next a__law_next d__law_next
  g__law_next : mg "_law_next" = some (.ref a__law_next)
  b__law_next : Binds K d__law_next ["pool", "many"] []
  a__law_new_name : Addr
  d__law_new_name : FuncData
  F__law_new_name : Fun K "_law_new_name" "_law_new_name" s__law_new_name a__law_new_name d__law_new_name
  g__law_new_name : mg "_law_new_name" = some (.ref a__law_new_name)
  b__law_new_name : Binds K d__law_new_name ["pool", "taken"] []
  a__law_sentence : Addr
  d__law_sentence : FuncData
  F__law_sentence : Fun K "_law_sentence" "_law_sentence" s__law_sentence a__law_sentence d__law_sentence
  g__law_sentence : mg "_law_sentence" = some (.ref a__law_sentence)
  b__law_sentence : Binds K d__law_sentence ["state", "depth"] []
  a__law_merge : Addr
  d__law_merge : FuncData
  F__law_merge : Fun K "_law_merge" "_law_merge" s__law_merge a__law_merge d__law_merge
  g__law_merge : mg "_law_merge" = some (.ref a__law_merge)
  b__law_merge : Binds K d__law_merge ["one", "two", "either_v"] []
  a__law_box : Addr
  d__law_box : FuncData
  F__law_box : Fun K "_law_box" "_law_box" s__law_box a__law_box d__law_box
  g__law_box : mg "_law_box" = some (.ref a__law_box)
  b__law_box : Binds K d__law_box ["found", "mode", "gone"] []
  a__law_counts : Addr
  d__law_counts : FuncData
  F__law_counts : Fun K "_law_counts" "_law_counts" s__law_counts a__law_counts d__law_counts
  g__law_counts : mg "_law_counts" = some (.ref a__law_counts)
  b__law_counts : Binds K d__law_counts ["tree", "level"] []
  a__law_row : Addr
  d__law_row : FuncData
  F__law_row : Fun K "_law_row" "_law_row" s__law_row a__law_row d__law_row
  g__law_row : mg "_law_row" = some (.ref a__law_row)
  b__law_row : Binds K d__law_row ["item"] []
  a__law_parts : Addr
  d__law_parts : FuncData
  F__law_parts : Fun K "_law_parts" "_law_parts" s__law_parts a__law_parts d__law_parts
  g__law_parts : mg "_law_parts" = some (.ref a__law_parts)
  b__law_parts : Binds K d__law_parts ["tree"] []
  a__law_moved : Addr
  d__law_moved : FuncData
  F__law_moved : Fun K "_law_moved" "_law_moved" s__law_moved a__law_moved d__law_moved
  g__law_moved : mg "_law_moved" = some (.ref a__law_moved)
  b__law_moved : Binds K d__law_moved ["tree", "old", "new", "names"] []
  a__law_mode : Addr
  d__law_mode : FuncData
  F__law_mode : Fun K "_law_mode" "_law_mode" s__law_mode a__law_mode d__law_mode
  g__law_mode : mg "_law_mode" = some (.ref a__law_mode)
  b__law_mode : Binds K d__law_mode ["pool", "room"] []
  a__law_ref : Addr
  d__law_ref : FuncData
  F__law_ref : Fun K "_law_ref" "_law_ref" s__law_ref a__law_ref d__law_ref
  g__law_ref : mg "_law_ref" = some (.ref a__law_ref)
  b__law_ref : Binds K d__law_ref ["state", "level"] []
  a__law_called : Addr
  d__law_called : FuncData
  F__law_called : Fun K "_law_called" "_law_called" s__law_called a__law_called d__law_called
  g__law_called : mg "_law_called" = some (.ref a__law_called)
  b__law_called : Binds K d__law_called ["state"] []
  a__law_free : Addr
  d__law_free : FuncData
  F__law_free : Fun K "_law_free" "_law_free" s__law_free a__law_free d__law_free
  g__law_free : mg "_law_free" = some (.ref a__law_free)
  b__law_free : Binds K d__law_free ["state", "level", "room", "depth"] []
  a__law_claim : Addr
  d__law_claim : FuncData
  F__law_claim : Fun K "_law_claim" "_law_claim" s__law_claim a__law_claim d__law_claim
  g__law_claim : mg "_law_claim" = some (.ref a__law_claim)
  b__law_claim : Binds K d__law_claim ["state", "many"] []
  a__law_group : Addr
  d__law_group : FuncData
  F__law_group : Fun K "_law_group" "_law_group" s__law_group a__law_group d__law_group
  g__law_group : mg "_law_group" = some (.ref a__law_group)
  b__law_group : Binds K d__law_group ["claim"] []
  a__law_begin : Addr
  d__law_begin : FuncData
  F__law_begin : Fun K "_law_begin" "_law_begin" s__law_begin a__law_begin d__law_begin
  g__law_begin : mg "_law_begin" = some (.ref a__law_begin)
  b__law_begin : Binds K d__law_begin ["script"] []
  a__law_same : Addr
  d__law_same : FuncData
  F__law_same : Fun K "_law_same" "_law_same" s__law_same a__law_same d__law_same
  g__law_same : mg "_law_same" = some (.ref a__law_same)
  b__law_same : Binds K d__law_same ["told", "due"] []
  a__law_fitted : Addr
  d__law_fitted : FuncData
  F__law_fitted : Fun K "_law_fitted" "_law_fitted" s__law_fitted a__law_fitted d__law_fitted
  g__law_fitted : mg "_law_fitted" = some (.ref a__law_fitted)
  b__law_fitted : Binds K d__law_fitted ["claim", "tree"] []
  a__law_least : Addr
  d__law_least : FuncData
  F__law_least : Fun K "_law_least" "_law_least" s__law_least a__law_least d__law_least
  g__law_least : mg "_law_least" = some (.ref a__law_least)
  b__law_least : Binds K d__law_least ["claim", "tree"] []
  a__law_boxes : Addr
  d__law_boxes : FuncData
  F__law_boxes : Fun K "_law_boxes" "_law_boxes" s__law_boxes a__law_boxes d__law_boxes
  g__law_boxes : mg "_law_boxes" = some (.ref a__law_boxes)
  b__law_boxes : Binds K d__law_boxes ["tree", "boxes", "found"] []
  a__law_nested : Addr
  d__law_nested : FuncData
  F__law_nested : Fun K "_law_nested" "_law_nested" s__law_nested a__law_nested d__law_nested
  g__law_nested : mg "_law_nested" = some (.ref a__law_nested)
  b__law_nested : Binds K d__law_nested ["boxes", "told"] []
  a__law_singles : Addr
  d__law_singles : FuncData
  F__law_singles : Fun K "_law_singles" "_law_singles" s__law_singles a__law_singles d__law_singles
  g__law_singles : mg "_law_singles" = some (.ref a__law_singles)
  b__law_singles : Binds K d__law_singles ["claim", "tree"] []
  a__law_row_of : Addr
  d__law_row_of : FuncData
  F__law_row_of : Fun K "_law_row_of" "_law_row_of" s__law_row_of a__law_row_of d__law_row_of
  g__law_row_of : mg "_law_row_of" = some (.ref a__law_row_of)
  b__law_row_of : Binds K d__law_row_of ["claim", "name"] []
  a__law_pooled : Addr
  d__law_pooled : FuncData
  F__law_pooled : Fun K "_law_pooled" "_law_pooled" s__law_pooled a__law_pooled d__law_pooled
  g__law_pooled : mg "_law_pooled" = some (.ref a__law_pooled)
  b__law_pooled : Binds K d__law_pooled ["claim", "tree", "first", "second"] []
  a__law_taken : Addr
  d__law_taken : FuncData
  F__law_taken : Fun K "_law_taken" "_law_taken" s__law_taken a__law_taken d__law_taken
  g__law_taken : mg "_law_taken" = some (.ref a__law_taken)
  b__law_taken : Binds K d__law_taken ["claim", "tree", "name"] []
  a__law_widened : Addr
  d__law_widened : FuncData
  F__law_widened : Fun K "_law_widened" "_law_widened" s__law_widened a__law_widened d__law_widened
  g__law_widened : mg "_law_widened" = some (.ref a__law_widened)
  b__law_widened : Binds K d__law_widened ["claim", "name", "mode"] []
  a__law_tried : Addr
  d__law_tried : FuncData
  F__law_tried : Fun K "_law_tried" "_law_tried" s__law_tried a__law_tried d__law_tried
  g__law_tried : mg "_law_tried" = some (.ref a__law_tried)
  b__law_tried : Binds K d__law_tried ["form", "claim", "tree", "one", "two"] []
  a__law_agrees : Addr
  d__law_agrees : FuncData
  F__law_agrees : Fun K "_law_agrees" "_law_agrees" s__law_agrees a__law_agrees d__law_agrees
  g__law_agrees : mg "_law_agrees" = some (.ref a__law_agrees)
  b__law_agrees : Binds K d__law_agrees ["told", "due"] []
  a__law_pairs : Addr
  d__law_pairs : FuncData
  F__law_pairs : Fun K "_law_pairs" "_law_pairs" s__law_pairs a__law_pairs d__law_pairs
  g__law_pairs : mg "_law_pairs" = some (.ref a__law_pairs)
  b__law_pairs : Binds K d__law_pairs ["state"] []
  a__law_joins : Addr
  d__law_joins : FuncData
  F__law_joins : Fun K "_law_joins" "_law_joins" s__law_joins a__law_joins d__law_joins
  g__law_joins : mg "_law_joins" = some (.ref a__law_joins)
  b__law_joins : Binds K d__law_joins ["state"] []
  a__law_three : Addr
  d__law_three : FuncData
  F__law_three : Fun K "_law_three" "_law_three" s__law_three a__law_three d__law_three
  g__law_three : mg "_law_three" = some (.ref a__law_three)
  b__law_three : Binds K d__law_three ["state"] []
  a__law_lifted : Addr
  d__law_lifted : FuncData
  F__law_lifted : Fun K "_law_lifted" "_law_lifted" s__law_lifted a__law_lifted d__law_lifted
  g__law_lifted : mg "_law_lifted" = some (.ref a__law_lifted)
  b__law_lifted : Binds K d__law_lifted ["state"] []
  a__law_given : Addr
  d__law_given : FuncData
  F__law_given : Fun K "_law_given" "_law_given" s__law_given a__law_given d__law_given
  g__law_given : mg "_law_given" = some (.ref a__law_given)
  b__law_given : Binds K d__law_given ["pool", "claim", "name"] []
  a__law_rooms : Addr
  d__law_rooms : FuncData
  F__law_rooms : Fun K "_law_rooms" "_law_rooms" s__law_rooms a__law_rooms d__law_rooms
  g__law_rooms : mg "_law_rooms" = some (.ref a__law_rooms)
  b__law_rooms : Binds K d__law_rooms ["state"] []
  a_law : Addr
  d_law : FuncData
  F_law : Fun K "law" "law" s_law a_law d_law
  g_law : mg "law" = some (.ref a_law)
  b_law : Binds K d_law ["script"] []
  z_abs : mg "abs" = none
  z_bool : mg "bool" = none
  z_int : mg "int" = none
  z_isinstance : mg "isinstance" = none
  z_len : mg "len" = none
  z_list : mg "list" = none
  z_max : mg "max" = none
  z_min : mg "min" = none
  z_range : mg "range" = none
  z_reversed : mg "reversed" = none
  z_str : mg "str" = none
  z_tuple : mg "tuple" = none
  z_ValueError : mg "ValueError" = none
  p_PREMISES : Addr
  g_PREMISES : mg "PREMISES" = some (.ref p_PREMISES)
  prem : ∀ t : Row, KDct K w p_PREMISES t.name (.int (t.kids.length : Int))
  c_HeldError : Addr
  mc_HeldError : Value
  gc_HeldError : mg "HeldError" = some (.ref c_HeldError)
  b_HeldError : HX.BaseC K c_HeldError mc_HeldError
  c_Count : Addr
  gc_Count : mg "Count" = some (.ref c_Count)
  cl_Count : Cls K c_Count
  sf_Count : PySem.W.selfFirst K c_Count = true
  n_least : NoAttr K c_Count "least"
  n_most : NoAttr K c_Count "most"
  n_days : NoAttr K c_Count "days"
  a_Count_init : Addr
  d_Count_init : FuncData
  F_Count_init : Fun K "__init__" "Count.__init__" s_Count_init a_Count_init d_Count_init
  mk_Count : Mk K c_Count a_Count_init
  b_Count_init : Binds K d_Count_init ["self", "least", "most", "days"] []
  a_Count_add : Addr
  d_Count_add : FuncData
  F_Count_add : Fun K "__add__" "Count.__add__" s_Count_add a_Count_add d_Count_add
  fi_Count_add : PySem.W.findIn K (.ref c_Count) (PySem.dunder Operator.Add.info.2) = some (some (.ref a_Count_add))
  fn_Count_add : PySem.W.isFn K (.ref a_Count_add) = true
  b_Count_add : Binds K d_Count_add ["self", "other"] []
  a_Count_or : Addr
  d_Count_or : FuncData
  F_Count_or : Fun K "__or__" "Count.__or__" s_Count_or a_Count_or d_Count_or
  fi_Count_or : PySem.W.findIn K (.ref c_Count) (PySem.dunder Operator.BitOr.info.2) = some (some (.ref a_Count_or))
  fn_Count_or : PySem.W.isFn K (.ref a_Count_or) = true
  b_Count_or : Binds K d_Count_or ["self", "other"] []
  a_Count_boxed : Addr
  d_Count_boxed : FuncData
  F_Count_boxed : Fun K "boxed" "Count.boxed" s_Count_boxed a_Count_boxed d_Count_boxed
  me_Count_boxed : Meth K c_Count "boxed" a_Count_boxed
  b_Count_boxed : Binds K d_Count_boxed ["self", "kind"] []
  dv_counts : List Value
  vd_counts : Vals [V.int 0] dv_counts
  bd_counts : Binds K d_counts ["derivation", "level"] dv_counts
  c_UnknownName : Addr
  fi_UnknownName : Addr
  di_UnknownName : FuncData
  gc_UnknownName : mg "UnknownName" = some (.ref c_UnknownName)
  o_UnknownName : OexC K c_UnknownName
  i_UnknownName : PySem.W.findIn K (.ref c_UnknownName) "__init__" = some (some (.ref fi_UnknownName))
  ti_UnknownName : PySem.W.typeIn K (.ref fi_UnknownName) = some (.type "function")
  Fi_UnknownName : Fun K "__init__" "UnknownName.__init__" s_UnknownName fi_UnknownName di_UnknownName
  bi_UnknownName : Binds K di_UnknownName ["self", "name"] []
  n_UnknownName : PySem.W.findIn K (.ref c_UnknownName) "name" = some none
  x_UnknownName : XfC K c_UnknownName
  e_UnknownName : ExcC K c_UnknownName
  kb_UnknownName : PySem.W.kitOne K (.ref c_UnknownName) (.ref c_HeldError) = some true
  kv_UnknownName : PySem.W.kitOne K (.ref c_UnknownName) (.type "ValueError") = some true
  mm_UnknownName : PySem.W.exmOne K (.ref c_UnknownName) (.ref c_UnknownName) = some true
  c_NoRoom : Addr
  fi_NoRoom : Addr
  di_NoRoom : FuncData
  gc_NoRoom : mg "NoRoom" = some (.ref c_NoRoom)
  o_NoRoom : OexC K c_NoRoom
  i_NoRoom : PySem.W.findIn K (.ref c_NoRoom) "__init__" = some (some (.ref fi_NoRoom))
  ti_NoRoom : PySem.W.typeIn K (.ref fi_NoRoom) = some (.type "function")
  Fi_NoRoom : Fun K "__init__" "NoRoom.__init__" s_NoRoom fi_NoRoom di_NoRoom
  bi_NoRoom : Binds K di_NoRoom ["self", "name"] []
  n_NoRoom : PySem.W.findIn K (.ref c_NoRoom) "name" = some none
  x_NoRoom : XfC K c_NoRoom
  e_NoRoom : ExcC K c_NoRoom
  kb_NoRoom : PySem.W.kitOne K (.ref c_NoRoom) (.ref c_HeldError) = some true
  kv_NoRoom : PySem.W.kitOne K (.ref c_NoRoom) (.type "ValueError") = some true
  mm_NoRoom : PySem.W.exmOne K (.ref c_NoRoom) (.ref c_NoRoom) = some true
  mo_UnknownName : PySem.W.exmOne K (.ref c_UnknownName) (.ref c_NoRoom) = some false
  ko_UnknownName : PySem.W.kitOne K (.ref c_UnknownName) (.ref c_NoRoom) = some false
  mo_NoRoom : PySem.W.exmOne K (.ref c_NoRoom) (.ref c_UnknownName) = some false
  ko_NoRoom : PySem.W.kitOne K (.ref c_NoRoom) (.ref c_UnknownName) = some false
section
variable {K : PySem.W.Frag} {w : World} {mg : Str → Option Value}
theorem Tx.k__wall (T : Tx K w mg) : PySem.W.keepIn K (.ref T.a__wall) = true := T.F__wall.kp
theorem Tx.k_is_number (T : Tx K w mg) : PySem.W.keepIn K (.ref T.a_is_number) = true := T.F_is_number.kp
theorem Tx.k_is_kind (T : Tx K w mg) : PySem.W.keepIn K (.ref T.a_is_kind) = true := T.F_is_kind.kp
theorem Tx.k_nested (T : Tx K w mg) : PySem.W.keepIn K (.ref T.a_nested) = true := T.F_nested.kp
theorem Tx.k_pooled (T : Tx K w mg) : PySem.W.keepIn K (.ref T.a_pooled) = true := T.F_pooled.kp
theorem Tx.k_covers (T : Tx K w mg) : PySem.W.keepIn K (.ref T.a_covers) = true := T.F_covers.kp
theorem Tx.k_trade (T : Tx K w mg) : PySem.W.keepIn K (.ref T.a_trade) = true := T.F_trade.kp
theorem Tx.k_hold_of (T : Tx K w mg) : PySem.W.keepIn K (.ref T.a_hold_of) = true := T.F_hold_of.kp
theorem Tx.k_without_hold (T : Tx K w mg) : PySem.W.keepIn K (.ref T.a_without_hold) = true := T.F_without_hold.kp
theorem Tx.k_added (T : Tx K w mg) : PySem.W.keepIn K (.ref T.a_added) = true := T.F_added.kp
theorem Tx.k_either (T : Tx K w mg) : PySem.W.keepIn K (.ref T.a_either) = true := T.F_either.kp
theorem Tx.k_boxed_counts (T : Tx K w mg) : PySem.W.keepIn K (.ref T.a_boxed_counts) = true := T.F_boxed_counts.kp
theorem Tx.k_without (T : Tx K w mg) : PySem.W.keepIn K (.ref T.a_without) = true := T.F_without.kp
theorem Tx.k_counts (T : Tx K w mg) : PySem.W.keepIn K (.ref T.a_counts) = true := T.F_counts.kp
theorem Tx.k_premises (T : Tx K w mg) : PySem.W.keepIn K (.ref T.a_premises) = true := T.F_premises.kp
theorem Tx.k_rebuilt (T : Tx K w mg) : PySem.W.keepIn K (.ref T.a_rebuilt) = true := T.F_rebuilt.kp
theorem Tx.k_refers_to (T : Tx K w mg) : PySem.W.keepIn K (.ref T.a_refers_to) = true := T.F_refers_to.kp
theorem Tx.k_moved_ref (T : Tx K w mg) : PySem.W.keepIn K (.ref T.a_moved_ref) = true := T.F_moved_ref.kp
theorem Tx.k_moved (T : Tx K w mg) : PySem.W.keepIn K (.ref T.a_moved) = true := T.F_moved.kp
theorem Tx.k_with_kind (T : Tx K w mg) : PySem.W.keepIn K (.ref T.a_with_kind) = true := T.F_with_kind.kp
theorem Tx.k_with_room (T : Tx K w mg) : PySem.W.keepIn K (.ref T.a_with_room) = true := T.F_with_room.kp
theorem Tx.k_pooled_holds (T : Tx K w mg) : PySem.W.keepIn K (.ref T.a_pooled_holds) = true := T.F_pooled_holds.kp
theorem Tx.k_least_kinds (T : Tx K w mg) : PySem.W.keepIn K (.ref T.a_least_kinds) = true := T.F_least_kinds.kp
theorem Tx.k_abstracted (T : Tx K w mg) : PySem.W.keepIn K (.ref T.a_abstracted) = true := T.F_abstracted.kp
theorem Tx.k__law_cell (T : Tx K w mg) : PySem.W.keepIn K (.ref T.a__law_cell) = true := T.F__law_cell.kp
theorem Tx.k__law_pool (T : Tx K w mg) : PySem.W.keepIn K (.ref T.a__law_pool) = true := T.F__law_pool.kp
theorem Tx.k__law_next (T : Tx K w mg) : PySem.W.keepIn K (.ref T.a__law_next) = true := T.F__law_next.kp
theorem Tx.k__law_new_name (T : Tx K w mg) : PySem.W.keepIn K (.ref T.a__law_new_name) = true := T.F__law_new_name.kp
theorem Tx.k__law_sentence (T : Tx K w mg) : PySem.W.keepIn K (.ref T.a__law_sentence) = true := T.F__law_sentence.kp
theorem Tx.k__law_merge (T : Tx K w mg) : PySem.W.keepIn K (.ref T.a__law_merge) = true := T.F__law_merge.kp
theorem Tx.k__law_box (T : Tx K w mg) : PySem.W.keepIn K (.ref T.a__law_box) = true := T.F__law_box.kp
theorem Tx.k__law_counts (T : Tx K w mg) : PySem.W.keepIn K (.ref T.a__law_counts) = true := T.F__law_counts.kp
theorem Tx.k__law_row (T : Tx K w mg) : PySem.W.keepIn K (.ref T.a__law_row) = true := T.F__law_row.kp
theorem Tx.k__law_parts (T : Tx K w mg) : PySem.W.keepIn K (.ref T.a__law_parts) = true := T.F__law_parts.kp
theorem Tx.k__law_moved (T : Tx K w mg) : PySem.W.keepIn K (.ref T.a__law_moved) = true := T.F__law_moved.kp
theorem Tx.k__law_mode (T : Tx K w mg) : PySem.W.keepIn K (.ref T.a__law_mode) = true := T.F__law_mode.kp
theorem Tx.k__law_ref (T : Tx K w mg) : PySem.W.keepIn K (.ref T.a__law_ref) = true := T.F__law_ref.kp
theorem Tx.k__law_called (T : Tx K w mg) : PySem.W.keepIn K (.ref T.a__law_called) = true := T.F__law_called.kp
theorem Tx.k__law_free (T : Tx K w mg) : PySem.W.keepIn K (.ref T.a__law_free) = true := T.F__law_free.kp
theorem Tx.k__law_claim (T : Tx K w mg) : PySem.W.keepIn K (.ref T.a__law_claim) = true := T.F__law_claim.kp
theorem Tx.k__law_group (T : Tx K w mg) : PySem.W.keepIn K (.ref T.a__law_group) = true := T.F__law_group.kp
theorem Tx.k__law_begin (T : Tx K w mg) : PySem.W.keepIn K (.ref T.a__law_begin) = true := T.F__law_begin.kp
theorem Tx.k__law_same (T : Tx K w mg) : PySem.W.keepIn K (.ref T.a__law_same) = true := T.F__law_same.kp
theorem Tx.k__law_fitted (T : Tx K w mg) : PySem.W.keepIn K (.ref T.a__law_fitted) = true := T.F__law_fitted.kp
theorem Tx.k__law_least (T : Tx K w mg) : PySem.W.keepIn K (.ref T.a__law_least) = true := T.F__law_least.kp
theorem Tx.k__law_boxes (T : Tx K w mg) : PySem.W.keepIn K (.ref T.a__law_boxes) = true := T.F__law_boxes.kp
theorem Tx.k__law_nested (T : Tx K w mg) : PySem.W.keepIn K (.ref T.a__law_nested) = true := T.F__law_nested.kp
theorem Tx.k__law_singles (T : Tx K w mg) : PySem.W.keepIn K (.ref T.a__law_singles) = true := T.F__law_singles.kp
theorem Tx.k__law_row_of (T : Tx K w mg) : PySem.W.keepIn K (.ref T.a__law_row_of) = true := T.F__law_row_of.kp
theorem Tx.k__law_pooled (T : Tx K w mg) : PySem.W.keepIn K (.ref T.a__law_pooled) = true := T.F__law_pooled.kp
theorem Tx.k__law_taken (T : Tx K w mg) : PySem.W.keepIn K (.ref T.a__law_taken) = true := T.F__law_taken.kp
theorem Tx.k__law_widened (T : Tx K w mg) : PySem.W.keepIn K (.ref T.a__law_widened) = true := T.F__law_widened.kp
theorem Tx.k__law_tried (T : Tx K w mg) : PySem.W.keepIn K (.ref T.a__law_tried) = true := T.F__law_tried.kp
theorem Tx.k__law_agrees (T : Tx K w mg) : PySem.W.keepIn K (.ref T.a__law_agrees) = true := T.F__law_agrees.kp
theorem Tx.k__law_pairs (T : Tx K w mg) : PySem.W.keepIn K (.ref T.a__law_pairs) = true := T.F__law_pairs.kp
theorem Tx.k__law_joins (T : Tx K w mg) : PySem.W.keepIn K (.ref T.a__law_joins) = true := T.F__law_joins.kp
theorem Tx.k__law_three (T : Tx K w mg) : PySem.W.keepIn K (.ref T.a__law_three) = true := T.F__law_three.kp
theorem Tx.k__law_lifted (T : Tx K w mg) : PySem.W.keepIn K (.ref T.a__law_lifted) = true := T.F__law_lifted.kp
theorem Tx.k__law_given (T : Tx K w mg) : PySem.W.keepIn K (.ref T.a__law_given) = true := T.F__law_given.kp
theorem Tx.k__law_rooms (T : Tx K w mg) : PySem.W.keepIn K (.ref T.a__law_rooms) = true := T.F__law_rooms.kp
theorem Tx.k_law (T : Tx K w mg) : PySem.W.keepIn K (.ref T.a_law) = true := T.F_law.kp
end
end HA

/-! Numbers and names drawn. -/
namespace HA
open PySem PySem.Spec PyProof.Rows L2
theorem str_len (x y : Str) : (x ++ y).length = x.length + y.length := by
  rw [← tl_len, ← tl_len, ← tl_len, tl_app, List.length_append]
theorem log_small {i : Int} (h : i.natAbs < 2 ^ 64) : i.natAbs.log2 < 1920 := by
  by_cases z : i.natAbs = 0
  · rw [z]; decide
  · exact Nat.lt_of_lt_of_le ((Nat.log2_lt z).mpr h) (by decide)
section
variable {P : Program} {w : World} {K : PySem.W.Frag} {mg : Str → Option Value} {base : Heap}
def spCell (K : PySem.W.Frag) : Sp := fun vs H Q _ => ∃ (a : Addr) (ns : List Int) (k : Nat), vs = [.ref a, .int (k : Int)] ∧
  SqL K H a (ns.map V.int) ∧ ∀ i : Int, 0 ≤ i → Q (.int i) H
theorem ok_cell (T : Tx K w mg) {k : Nat} : FnOk P w K mg base CX0 (k + 1) T.a__law_cell T.d__law_cell ["script", "k"] (spCell K) := by
  refine T.F__law_cell.ok sc__law_cell (fun vs H Q E h => ?_) (fun cdv A outer s H vs Q E hr h => ?_)
  · obtain ⟨a, ns, k, rfl, _⟩ := h
    rfl
  obtain ⟨a, ns, k, rfl, hs, q⟩ := h
  refine ⟨_, (pss_cons (ps_if (pt_cmpR op_lt (pv 1) (pe_callB call_len_seq (by rfl) T.z_len (by decide +kernel) (pa_cons (pv 0) pa_nil)) (nomark _))
      (pss_one (ps_ret (pe_callB call_abs (by rfl) T.z_abs (by decide +kernel) (pa_cons (pe_ix ix_list (pv 0) (pv 1) (fun _ _ => rfl)) pa_nil))))
      pss_nil)
    (pss_one (ps_ret pe_int))), ?_⟩
  refine ⟨_, rfl, _, rfl, a, _, rfl, .inl hs, _, _, rfl, rfl, _, rfl, ?_⟩
  refine ite2 (c := decide ((k : Int) < ((ns.map V.int).length : Int)) = true) (fun h => ?_) fun h => q 0 (Int.le_refl 0)
  have h' := of_decide_eq_true h
  rw [List.length_map] at h'
  have h2 : k < ns.length := by omega
  refine ⟨.ref a, rfl, _, rfl, a, _, (k : Int), .int ns[k], rfl, rfl, hs, atI_nat ?_, _, rfl, q _ ?_⟩
  · rw [List.getElem?_map, List.getElem?_eq_getElem h2]; rfl
  · split <;> omega
def spPool (K : PySem.W.Frag) : Sp := fun vs H Q _ => ∃ (a : Addr) (ns : List Int) (k : Nat), vs = [.ref a, .int (k : Int)] ∧
  SqL K H a (ns.map V.int) ∧ ∀ H' p, Same H H' → H p = none → Pool H' p → Q (.ref p) H'
theorem ok_pool (T : Tx K w mg) {k : Nat} : FnOk P w K mg base CX0 (k + 2) T.a__law_pool T.d__law_pool ["script", "k"] (spPool K) := by
  have G__law_cell := ok_cell (P := P) (base := base) T (k := k)
  refine T.F__law_pool.ok sc__law_pool (fun vs H Q E h => ?_) (fun cdv A outer s H vs Q E hr h => ?_)
  · obtain ⟨a, ns, k, rfl, _⟩ := h
    rfl
  obtain ⟨a, ns, k, rfl, hs, q⟩ := h
  refine ⟨_, (pss_cons (ps_set (i := 2) sc__law_pool.nd rfl (Or.inl rfl) (pe_call (G__law_cell) hr (by rfl) T.g__law_cell T.k__law_cell T.b__law_cell .nil pass0 (pa_cons (pv 0) (pa_cons (pv 1) pa_nil))))
    (pss_cons (ps_if (pt_cmpR op_ge (pv 2) (pe_op op_pow pe_int pe_int) (nomark _))
      (pss_one (ps_ret (pe_lstN (pa_cons (pv 2) (pa_cons pe_int (pa_cons (pe_op op_mod (pe_callTy call_int1 (by rfl) T.z_int (by decide +kernel) (pa_cons (pv 2) pa_nil)) pe_int) pa_nil))))))
      pss_nil)
    (pss_one (ps_ret (pe_lstN (pa_cons pe_int (pa_cons pe_int (pa_cons (pv 2) pa_nil)))))))), ?_⟩
  refine ⟨_, rfl, _, rfl, a, ns, k, rfl, hs, fun i hi => ?_⟩
  refine ⟨_, rfl, _, _, rfl, rfl, ⟨by decide, by decide, by decide⟩, _, _, rfl, rfl, _, rfl, ?_⟩
  refine iteB (fun h => ?_) fun h => ?_
  · refine ⟨_, rfl, _, rfl, .inl ⟨i, rfl, _, _, rfl, rfl, (show (0 : Int) < 1000003 by decide), (by show 3 ≤ 1000; decide), fun H' p s1 np hp => q H' p s1 np ⟨_, _, _, hp, hi, by decide, ?_⟩⟩⟩
    exact Int.emod_nonneg _ (by decide)
  · exact ⟨_, rfl, (by show 3 ≤ 1000; decide), fun H' p s1 np hp => q H' p s1 np ⟨_, _, _, hp, by decide, by decide, hi⟩⟩
def spNext : Sp := fun vs H Q _ => ∃ (l : Addr) (m : Int), vs = [.ref l, .int m] ∧ Pool H l ∧ 0 < m ∧ m < 1073741824 ∧
  ∀ d H', 0 ≤ d → d < m → Kp [l] H H' → Pool H' l → Q (.int d) H'
theorem ok_next (T : Tx K w mg) {k : Nat} : FnOk P w K mg base CX0 (k + 1) T.a__law_next T.d__law_next ["pool", "many"] spNext := by
  refine T.F__law_next.ok sc__law_next (fun vs H Q E h => ?_) (fun cdv A outer s H vs Q E hr h => ?_)
  · obtain ⟨l, m, rfl, _⟩ := h
    rfl
  obtain ⟨l, m, rfl, ⟨a, b, c, hp, ha, hb, hc⟩, h0, h1, q⟩ := h
  refine ⟨_, (pss_cons (ps_if (pt_cmpR op_gt (pe_ix ix_list (pv 0) pe_int (fun _ _ => rfl)) pe_int (nomark _))
      (pss_cons (ps_set (i := 2) sc__law_next.nd rfl (Or.inl rfl) (pe_op op_mod (pe_callTy call_int1 (by rfl) T.z_int (by decide +kernel) (pa_cons (pe_ix ix_list (pv 0) pe_int (fun _ _ => rfl)) pa_nil)) (pv 1)))
      (pss_cons (ps_asg (pe_op op_fdiv (pe_ix ix_list (pv 0) pe_int (fun _ _ => rfl)) (pv 1)) (pg_sub (pv 0) pe_int set_list))
      (pss_one (ps_ret (pv 2)))))
      pss_nil)
    (pss_cons (ps_asg (pe_op op_add (pe_ix ix_list (pv 0) pe_int (fun _ _ => rfl)) pe_int) (pg_sub (pv 0) pe_int set_list))
    (pss_cons (ps_set (i := 3) sc__law_next.nd rfl (Or.inl rfl) (pe_op op_mod (pe_callTy call_int1 (by rfl) T.z_int (by decide +kernel) (pa_cons (pe_op op_add (pe_op op_add (pe_ix ix_list (pv 0) pe_int (fun _ _ => rfl)) (pe_op op_mul pe_int (pe_ix ix_list (pv 0) pe_int (fun _ _ => rfl)))) pe_int) pa_nil)) pe_int))
    (pss_cons (ps_set (i := 3) sc__law_next.nd rfl (Or.inl rfl) (pe_op op_mod (pe_callTy call_int1 (by rfl) T.z_int (by decide +kernel) (pa_cons (pe_op op_mul (pv 3) (pe_op op_add (pv 3) pe_int)) pa_nil)) pe_int))
    (pss_cons (ps_set (i := 3) sc__law_next.nd rfl (Or.inl rfl) (pe_op op_mod (pe_callTy call_int1 (by rfl) T.z_int (by decide +kernel) (pa_cons (pe_op op_add (pe_op op_mul (pv 3) (pe_op op_add (pv 3) pe_int)) (pe_op op_mul pe_int (pe_ix ix_list (pv 0) pe_int (fun _ _ => rfl)))) pa_nil)) pe_int))
    (pss_one (ps_ret (pe_op op_mod (pe_callTy call_int1 (by rfl) T.z_int (by decide +kernel) (pa_cons (pe_op op_fdiv (pv 3) pe_int) pa_nil)) (pv 1))))))))), ?_⟩
  refine ⟨_, rfl, l, _, 0, .int a, rfl, rfl, SqL.of hp, atI_at (j := 0) rfl rfl, a, 0, rfl, rfl, _, rfl, ?_⟩
  refine ite2 (c := decide (0 < a) = true) (fun h => ?_) fun h => ?_
  · refine ⟨_, rfl, l, _, 0, .int a, rfl, rfl, SqL.of hp, atI_at (j := 0) rfl rfl, .inl ⟨a, rfl, _, rfl, a, m, rfl, rfl, h0, ?_⟩⟩
    refine ⟨_, rfl, l, _, 0, .int a, rfl, rfl, SqL.of hp, atI_at (j := 0) rfl rfl, _, rfl, a, m, rfl, rfl, ⟨h0, h1⟩, _, rfl, l, _, 0, 0, rfl, rfl, hp, rfl, ?_⟩
    exact ⟨_, rfl, q _ _ (Int.emod_nonneg _ (by omega)) (Int.emod_lt_of_pos _ h0) (Kp.wr (.head _)) ⟨_, _, _, upd_same, Int.ediv_nonneg ha (by omega), hb, hc⟩⟩
  · refine ⟨_, rfl, l, _, 1, .int b, rfl, rfl, SqL.of hp, atI_at (j := 1) rfl rfl, _, _, rfl, rfl, _, rfl, l, _, 1, 1, rfl, rfl, hp, rfl, ?_⟩
    have k1 : Kp [l] H (upd H l (.lst ([.int a, .int b, .int c].set 1 (.int (b + 1))))) := Kp.wr (.head _)
    have hp1 : upd H l (.lst ([.int a, .int b, .int c].set 1 (.int (b + 1)))) l = some (.lst [.int a, .int (b + 1), .int c]) := upd_same
    revert hp1 k1
    generalize upd H l (.lst ([.int a, .int b, .int c].set 1 (.int (b + 1)))) = H1
    intro k1 hp1
    refine ⟨_, rfl, l, _, 2, .int c, rfl, rfl, SqL.of hp1, atI_at (j := 2) rfl rfl, _, rfl, l, _, 1, .int (b + 1), rfl, rfl, SqL.of hp1, atI_at (j := 1) rfl rfl,
      _, _, rfl, rfl, .inl ⟨by decide, by decide⟩, _, _, rfl, rfl, _, _, rfl, rfl, .inl ⟨_, rfl, _, _, rfl, rfl, (show (0 : Int) < 2147483647 by decide), ?_⟩⟩
    have x0 := Int.emod_nonneg (c + 7919 * (b + 1) + 13) (show (2147483647 : Int) ≠ 0 by decide)
    have x1 := Int.emod_lt_of_pos (c + 7919 * (b + 1) + 13) (show (0 : Int) < 2147483647 by decide)
    revert x0 x1
    generalize (c + 7919 * (b + 1) + 13) % 2147483647 = x
    intro x0 x1
    refine ⟨_, rfl, _, rfl, _, _, rfl, rfl, _, _, rfl, rfl, .inl ⟨by omega, by omega⟩, .inl ⟨_, rfl, _, _, rfl, rfl, (show (0 : Int) < 2147483629 by decide), ?_⟩⟩
    have y0 := Int.emod_nonneg (x * (x + 48271)) (show (2147483629 : Int) ≠ 0 by decide)
    have y1 := Int.emod_lt_of_pos (x * (x + 48271)) (show (0 : Int) < 2147483629 by decide)
    revert y0 y1
    generalize x * (x + 48271) % 2147483629 = y
    intro y0 y1
    refine ⟨_, rfl, _, rfl, _, _, rfl, rfl, _, _, rfl, rfl, .inl ⟨by omega, by omega⟩, _, rfl, l, _, 1, .int (b + 1), rfl, rfl, SqL.of hp1, atI_at (j := 1) rfl rfl,
      _, _, rfl, rfl, .inl ⟨by decide, by decide⟩, _, _, rfl, rfl, .inl ⟨_, rfl, _, _, rfl, rfl, (show (0 : Int) < 2147483647 by decide), ?_⟩⟩
    have z0 := Int.emod_nonneg (y * (y + 69621) + 31 * (b + 1)) (show (2147483647 : Int) ≠ 0 by decide)
    revert z0
    generalize (y * (y + 69621) + 31 * (b + 1)) % 2147483647 = z
    intro z0
    refine ⟨_, rfl, _, _, rfl, rfl, ⟨by decide, by decide⟩, .inl ⟨_, rfl, _, rfl, _, _, rfl, rfl, h0, ?_⟩⟩
    exact q _ _ (Int.emod_nonneg _ (by omega)) (Int.emod_lt_of_pos _ h0) k1 ⟨a, b + 1, c, hp1, ha, by omega, hc⟩
/-- a name is drawn and put behind the taken ones -/
def spNewName : Sp := fun vs H Q _ => ∃ (l t : Addr) (names : List Str), vs = [.ref l, .ref t] ∧ Pool H l ∧ H t = some (.lst (names.map V.str)) ∧
  (∀ x ∈ names, NameOk x) ∧ names.length ≤ 1000 ∧
  ∀ x H', NameOk x → x ∉ names → Kp [l, t] H H' → Pool H' l → H' t = some (.lst ((names ++ [x]).map V.str)) → Q (.str x) H'
theorem ok_new_name (T : Tx K w mg) {k : Nat} : FnOk P w K mg base CX0 (k + 2) T.a__law_new_name T.d__law_new_name ["pool", "taken"] spNewName := by
  have G__law_next := ok_next (P := P) (base := base) T (k := k)
  refine T.F__law_new_name.ok sc__law_new_name (fun vs H Q E h => ?_) (fun cdv A outer s H vs Q E hr h => ?_)
  · obtain ⟨l, t, names, rfl, _⟩ := h
    rfl
  obtain ⟨l, t, names, rfl, hp, ht, ok, hz, q⟩ := h
  have nlt := pool_ne hp ht
  have ntl : t ∉ [l] := fun m => by
    cases m with
    | head => exact nlt rfl
    | tail _ m => cases m
  refine ⟨_, (pss_cons (ps_set (i := 2) sc__law_new_name.nd rfl (Or.inl rfl) pe_str)
    (pss_cons (ps_set (i := 3) sc__law_new_name.nd rfl (Or.inl rfl) (pe_call (G__law_next) hr (by rfl) T.g__law_next T.k__law_next T.b__law_next .nil pass0 (pa_cons (pv 0) (pa_cons pe_int pa_nil))))
    (C8.pss_cut (ps_if (PW.pt (pw_and (pt_cmpR op_eq (pv 3) pe_int (nomark _)) (pw_and1 (pt_truth (pv 1) (by intro _; rfl)))))
      (pss_cons (ps_set (i := 4) sc__law_new_name.nd rfl (Or.inl rfl) (pe_ix ix_list (pv 1) (pe_call (G__law_next) hr (by rfl) T.g__law_next T.k__law_next T.b__law_next .nil pass0 (pa_cons (pv 0) (pa_cons (pe_callB call_len_seq (by rfl) T.z_len (by decide +kernel) (pa_cons (pv 1) pa_nil)) pa_nil))) (fun _ _ => rfl)))
      (pss_cons (ps_set (i := 5) sc__law_new_name.nd rfl (Or.inl rfl) (pe_op op_add pe_int (pe_call (G__law_next) hr (by rfl) T.g__law_next T.k__law_next T.b__law_next .nil pass0 (pa_cons (pv 0) (pa_cons (pe_callB call_len_str (by rfl) T.z_len (by decide +kernel) (pa_cons (pv 4) pa_nil)) pa_nil)))))
      (pss_cons (ps_set (i := 6) sc__law_new_name.nd rfl (Or.inl rfl) (pe_op op_add_str (pe_op op_add_str (pe_slice sl_str (pv 4) po_none (po_some (pv 5))) (pe_ix ix_str (pv 2) (pe_call (G__law_next) hr (by rfl) T.g__law_next T.k__law_next T.b__law_next .nil pass0 (pa_cons (pv 0) (pa_cons pe_int pa_nil))) (fun _ _ => rfl))) (pe_slice sl_str (pv 4) (po_some (pe_op op_add (pv 5) pe_int)) po_none)))
      (pss_one (ps_set (i := 6) sc__law_new_name.nd rfl (Or.inl rfl) (pe_slice sl_str (pv 6) po_none (po_some pe_int)))))))
      (pss_cons (ps_set (i := 6) sc__law_new_name.nd rfl (Or.inl rfl) (pe_ix ix_str (pv 2) (pe_call (G__law_next) hr (by rfl) T.g__law_next T.k__law_next T.b__law_next .nil pass0 (pa_cons (pv 0) (pa_cons pe_int pa_nil))) (fun _ _ => rfl)))
      (pss_one (ps_for PassesOwn.never rfl (pi_range1 (by rfl) T.z_range (pa_cons (pe_ix ix_list (pe_lstN (pa_cons pe_int (pa_cons pe_int (pa_cons pe_int (pa_cons pe_int pa_nil))))) (pv 3) (fun _ _ => rfl)) pa_nil)) (pg_name (i := 7) sc__law_new_name.nd rfl (Or.inl rfl))
        (pss_one (ps_set (i := 6) sc__law_new_name.nd rfl (Or.inl rfl) (pe_op op_add_str (pv 6) (pe_ix ix_str (pv 2) (pe_call (G__law_next) hr (by rfl) T.g__law_next T.k__law_next T.b__law_next .nil pass0 (pa_cons (pv 0) (pa_cons pe_int pa_nil))) (fun _ _ => rfl)))))))))
    (pss_cons (ps_for PassesOwn.never rfl (pi_range1 (by rfl) T.z_range (pa_cons (pe_op op_add (pe_callB call_len_seq (by rfl) T.z_len (by decide +kernel) (pa_cons (pv 1) pa_nil)) pe_int) pa_nil)) (pg_name (i := 7) sc__law_new_name.nd rfl (Or.inl rfl))
      (pss_one (ps_if (pt_cmpR op_in_seq (pv 6) (pv 1) (by rfl))
        (pss_one (ps_set (i := 6) sc__law_new_name.nd rfl (Or.inl rfl) (pe_op op_add_str pe_str (pe_callTy call_str_int (by rfl) T.z_str (by decide +kernel) (pa_cons (pv 7) pa_nil)))))
        pss_nil)))
    (pss_cons (ps_expr (pe_bm PySem.F.plainAttrs_list PySem.F.slot_list_append PySem.F.type_list_append mt_append (pv 1) (pa_cons (pv 6) pa_nil)))
    (pss_one (ps_ret (pv 6)))))))), ?_⟩
  -- signs; pick
  refine ⟨_, rfl, l, 4, rfl, hp, by decide, by decide, fun d H1 d0 d1 k1 p1 => ?_⟩
  have ht1 := k1 _ _ ntl ht
  -- the first name
  refine ⟨fun σ' H' => ∃ y4 y5 y7 x, σ' = [some (.ref l), some (.ref t), some (.str SIGNS), some (.int d), y4, y5, some (.str x), y7] ∧ NameOk x ∧ Kp [l] H1 H' ∧ Pool H' l, ?_, ?_⟩
  · refine ⟨_, rfl, rfl, _, rfl, ?_⟩
    refine iteB (fun e1 => ⟨_, rfl, _, .inl ⟨_, SqL.of ht1, rfl⟩, iteB (fun e2 => ?_) (fun e2 => ?_)⟩) (fun e1 => iteF ?_)
    · have hn : 0 < names.length := by
        cases names with
        | nil => cases e2
        | cons x r => exact Nat.succ_pos _
      refine ⟨_, rfl, _, rfl, _, rfl, t, _, rfl, .inl (SqL.of ht1), l, _, rfl, p1, by rw [List.length_map]; omega, by rw [List.length_map]; omega, fun e H2 e0 e1' k2 p2 => ?_⟩
      obtain ⟨n, rfl⟩ := Int.eq_ofNat_of_zero_le e0
      rw [List.length_map] at e1'
      have hnl : n < names.length := by omega
      have ho : NameOk names[n] := ok _ (List.getElem_mem hnl)
      have hol := ho.len
      refine ⟨t, _, (n : Int), .str names[n], rfl, rfl, SqL.of (k2 _ _ ntl ht1), atI_nat ?_, ?_⟩
      · rw [List.getElem?_map, List.getElem?_eq_getElem hnl]; rfl
      generalize names[n] = old at ho hol
      refine ⟨_, rfl, _, rfl, old, rfl, sz_le (by omega), l, _, rfl, p2, by omega, by omega, fun f H3 f0 f1 k3 p3 => ?_⟩
      obtain ⟨m, rfl⟩ := Int.eq_ofNat_of_zero_le f0
      refine ⟨_, _, rfl, rfl, ?_⟩
      have c1 := cutS_length old none (some (1 + (m : Int)))
      have c2 := cutS_length old (some (1 + (m : Int) + 1)) none
      refine ⟨_, rfl, _, rfl, _, rfl, old, rfl, sz_le (by omega), _, rfl, _, rfl, l, 36, rfl, p3, by decide, by decide, fun g H4 g0 g1 k4 p4 => ?_⟩
      obtain ⟨c, hc, hld, _⟩ := sign_at g0 g1
      have hs := NameOk.swap (k := m) ho hld
      rw [show ((m + 1 : Nat) : Int) = 1 + (m : Int) by omega, show ((m + 2 : Nat) : Int) = 1 + (m : Int) + 1 by omega] at hs
      have l1 : (⟨#[c]⟩ : Str).length = 1 := rfl
      have l3 := str_len (cutS old none (some (1 + (m : Int)))) ⟨#[c]⟩
      have l4 := str_len (cutS old none (some (1 + (m : Int))) ++ ⟨#[c]⟩) (cutS old (some (1 + (m : Int) + 1)) none)
      refine ⟨SIGNS, g, c, rfl, rfl, sz_le (by rw [signs_len]; decide), hc, _, _, rfl, rfl, sz_le (by omega), ?_⟩
      refine ⟨_, rfl, _, rfl, _, _, rfl, rfl, _, rfl, old, rfl, sz_le (by omega), _, _, rfl, rfl, sz_le (by omega), ?_⟩
      refine ⟨_, rfl, 12, rfl, _, rfl, sz_le (by omega), ?_⟩
      exact ⟨_, _, _, _, rfl, hs, ((k2.trans k3).trans k4), p4⟩
    all_goals
      refine ⟨_, rfl, _, rfl, l, 26, rfl, p1, by decide, by decide, fun g H2 g0 g1 k2 p2 => ?_⟩
      obtain ⟨c, hc, hld, hlc⟩ := sign_at g0 (by omega)
      refine ⟨SIGNS, g, c, rfl, rfl, sz_le (by rw [signs_len]; decide), hc, ?_⟩
      refine ⟨by decide, fun H3 b s3 nb hb => ?_⟩
      have cn : ∃ cnt : Nat, cnt ≤ 11 ∧ atI [V.int 0, V.int 1, V.int 2, V.int 11] d = some (.int (cnt : Int)) := by
        have : d = 0 ∨ d = 1 ∨ d = 2 ∨ d = 3 := by omega
        rcases this with rfl | rfl | rfl | rfl
        · exact ⟨0, by decide, rfl⟩
        · exact ⟨1, by decide, rfl⟩
        · exact ⟨2, by decide, rfl⟩
        · exact ⟨11, by decide, rfl⟩
      obtain ⟨cnt, hcnt, hat⟩ := cn
      refine ⟨_, rfl, b, _, d, _, rfl, rfl, SqL.of hb, hat, (cnt : Int), rfl, by omega, by omega, ?_⟩
      refine for_range (lo := 0) (n := (cnt : Int).toNat) (fun i σ' H' => ∃ y7 x, σ' = [some (.ref l), some (.ref t), some (.str SIGNS), some (.int d), none, none, some (.str x), y7] ∧
          (∃ c r, tl x = c :: r ∧ isLc c = true ∧ (∀ z ∈ r, isLD z = true) ∧ r.length = i) ∧ Kp [l] H1 H' ∧ Pool H' l) ?_ ?_ ?_
      · exact ⟨_, _, rfl, ⟨c, [], rfl, hlc g1, (fun z hz => by cases hz), rfl⟩, k2.trans (Kp.of s3), p2.kp (S := []) (by simp) (Kp.of s3)⟩
      · rintro i σ' H' hi ⟨y7, x, rfl, ⟨c', r, hx, h1, h2, h3⟩, k', p'⟩
        have lx : x.length = i + 1 := by rw [← tl_len, hx, List.length_cons, h3]
        refine ⟨_, rfl, _, rfl, _, rfl, l, 36, rfl, p', by decide, by decide, fun g H4 g0 g1 k4 p4 => ?_⟩
        obtain ⟨c4, hc4, hld4, _⟩ := sign_at g0 g1
        have l1 : (⟨#[c4]⟩ : Str).length = 1 := rfl
        refine ⟨SIGNS, g, c4, rfl, rfl, sz_le (by rw [signs_len]; decide), hc4, _, _, rfl, rfl, sz_le (by omega), ?_⟩
        refine ⟨_, _, rfl, ⟨c', r ++ [c4], ?_, h1, fun z hz => ?_, ?_⟩, k'.trans k4, p4⟩
        · rw [tl_app, hx]; rfl
        · rcases List.mem_append.mp hz with hz | hz
          · exact h2 z hz
          · rw [List.mem_singleton.mp hz]; exact hld4
        · rw [List.length_append, h3]; rfl
      · rintro σ' H' ⟨y7, x, rfl, ⟨c', r, hx, h1, h2, h3⟩, k', p'⟩
        exact ⟨_, _, _, _, rfl, ⟨c', r, hx, h1, h2, by omega⟩, k', p'⟩
  · rintro σ' H2 ⟨y4, y5, y7, x, rfl, hx, k2, p2⟩
    have ht2 := k2 _ _ ntl ht1
    refine ⟨_, rfl, t, _, rfl, .inl (SqL.of ht2), _, _, rfl, rfl, _, rfl, by rw [List.length_map]; omega, by rw [List.length_map]; omega, ?_⟩
    refine for_range (lo := 0) (n := (((names.map V.str).length : Int) + 1).toNat) (fun i σ' H' => ∃ y7 x, σ' = [some (.ref l), some (.ref t), some (.str SIGNS), some (.int d), y4, y5, some (.str x), y7] ∧
        Seek names i x ∧ H' = H2) ⟨_, _, rfl, Seek.start hx, rfl⟩ ?_ ?_
    · rintro i σ' H' hi ⟨y7, x, rfl, sk, rfl⟩
      rw [List.length_map] at hi
      refine ⟨_, rfl, _, rfl, t, _, rfl, .inl (SqL.of ht2), rfl, flat_strs _, _, rfl, iteB (fun e => ?_) fun e => ?_⟩
      · have e' : inV (.str x) (names.map V.str) = true := e
        rw [inV_str, decide_eq_true_iff] at e'
        have nx := sk.next e' (by omega)
        have hl := nx.1.len
        rw [show spare i = ("spare" : Str) ++ Str.ofString (toString (0 + (i : Int))) by rw [Int.zero_add]; rfl] at nx hl
        rw [str_len] at hl
        refine ⟨_, rfl, _, rfl, log_small (by omega), _, _, rfl, rfl, sz_le (by omega), ?_⟩
        exact ⟨_, _, rfl, nx, rfl⟩
      · have e' : inV (.str x) (names.map V.str) = false := e
        rw [inV_str, decide_eq_false_iff_not] at e'
        exact ⟨_, _, rfl, sk.keep e', rfl⟩
    · rintro σ' H' ⟨y7, x, rfl, sk, rfl⟩
      rw [List.length_map, show ((names.length : Int) + 1).toNat = names.length + 1 by omega] at sk
      obtain ⟨hx, hn⟩ := sk.done
      refine ⟨_, rfl, .inl ⟨rfl, _, SqL.of ht2⟩, _, rfl, t, _, _, rfl, rfl, ht2, sz_lt (by rw [List.length_map]; omega), _, rfl, q x _ hx hn ?_ ?_ ?_⟩
      · exact ((k1.trans k2).mono (by simp)).trans (Kp.wr (by simp))
      · exact p2.kp (S := [t]) (by simp; exact nlt) (Kp.wr (.head _))
      · rw [upd_same, List.map_append]; rfl
end
end HA

/-! Counts as objects. -/
namespace HA
open PySem PySem.Spec PyProof.Rows L2 HX
section
variable {X : Cx}
/-- max of three whole numbers -/
def rMax3 : List V → Hp → VK → Prop := fun xs H Q => ∃ i j k : Int, xs = [.int i, .int j, .int k] ∧ Q (.int (max (max i j) k)) H
theorem call_max3 (hc : X.calm = true) : CallR X (.builtin "max") rMax3 := cr_imp (call_max3Nu hc) fun xs H Q ⟨i, j, k, e, q⟩ => ⟨.int i, .int j, .int k, .int (max (max i j) k), e, by
  have two : ∀ a b : Int, nuMax2 (.int a) (.int b) = some (.int (max a b)) := fun a b => by
    show some (if decide (a < b) = true then V.int b else V.int a) = _
    by_cases c : a < b
    · rw [if_pos (decide_eq_true c), show max a b = b by omega]
    · rw [if_neg (by rw [decide_eq_false c]; decide), show max a b = a by omega]
  show (nuMax2 (.int i) (.int j)).bind _ = _
  rw [two]
  exact two _ _, q⟩
/-- list(d) -/
def rListDk : List V → Hp → VK → Prop := fun xs H Q => ∃ (a : Addr) (kvs : List (Key × V)), xs = [.ref a] ∧ Rd H a (.dK kvs) ∧ ∀ H' p, Same H H' → H p = none → H' p = some (.lst (kvs.map fun kv => kV kv.1)) → Q (.ref p) H'
theorem call_listDk (hc : X.calm = true) : CallR X (.type "list") rListDk := cr_imp (call_listD hc) fun xs H Q ⟨a, kvs, e, h, q⟩ => ⟨a, kvs, e, h, fun p hp => q _ p (Same.new hp) hp upd_same⟩
end
/-- the fields of a Count -/
def cf (t : T3) : List (Str × V) := [("least", .int t.1), ("most", .int t.2.1), ("days", .int t.2.2)]
def CntAt (C : Addr) (H : Hp) (v : V) (t : T3) : Prop := ∃ a dx, v = .ref a ∧ H a = some (.ins C dx (cf t))
theorem CntAt.sm {C : Addr} {H H' : Hp} {v : V} {t : T3} (e : Same H H') (h : CntAt C H v t) : CntAt C H' v t := let ⟨a, dx, h1, h2⟩ := h; ⟨a, dx, h1, e _ _ h2⟩
section
variable {P : Program} {w : World} {K : PySem.W.Frag} {mg : Str → Option Value} {base : Heap}
def spCinit (C : Addr) : Sp := fun vs H Q _ => ∃ (p dx : Addr) (l m d : Int), vs = [.ref p, .int l, .int m, .int d] ∧ H p = some (.ins C dx []) ∧ ∀ H', H' p = some (.ins C dx (cf (l, m, d))) → (∀ b, b ≠ p → H' b = H b) → Q .non H'
theorem ok_Count_init (T : Tx K w mg) {k : Nat} : FnOk P w K mg base CX0 (k + 1) T.a_Count_init T.d_Count_init ["self", "least", "most", "days"] (spCinit T.c_Count) := by
  refine T.F_Count_init.ok sc_Count_init (fun vs H Q E h => ?_) (fun cdv A outer s H vs Q E hr h => ?_)
  · obtain ⟨p, dx, l, m, d, rfl, _⟩ := h
    rfl
  obtain ⟨p, dx, l, m, d, rfl, hp, q⟩ := h
  refine ⟨_, (pss_cons (ps_fld (pv 0) (pv 1) rfl)
    (pss_cons (ps_fld (pv 0) (pv 2) rfl)
    (pss_one (ps_fld (pv 0) (pv 3) rfl)))), ?_⟩
  refine ⟨_, rfl, _, rfl, p, _, dx, _, rfl, hp, T.cl_Count, T.n_least, (by show 0 < 1000; decide), ?_⟩
  refine ⟨_, rfl, _, rfl, p, _, dx, _, rfl, upd_same, T.cl_Count, T.n_most, (by show 1 < 1000; decide), ?_⟩
  refine ⟨_, rfl, _, rfl, p, _, dx, _, rfl, upd_same, T.cl_Count, T.n_days, (by show 2 < 1000; decide), ?_⟩
  exact q _ upd_same fun b hb => by rw [upd_ne hb, upd_ne hb, upd_ne hb]
/-- a Count that is made -/
theorem made_count {C x dx : Addr} {H H' : Hp} {t : T3} (hx : H x = none) (hdx : H dx = none) (ne : dx ≠ x) (h1 : H' x = some (.ins C dx (cf t))) (h2 : ∀ b, b ≠ x → H' b = upd (upd H dx (.own x)) x (.ins C dx []) b) : Same H H' ∧ CntAt C H' (.ref x) t :=
  ⟨fun b o e => by
    have bx : b ≠ x := ne_of_none e hx
    rw [h2 b bx, upd_ne bx, upd_ne (ne_of_none e hdx)]
    exact e, x, dx, rfl, h1⟩
theorem cf_least (t : T3) : (cf t).lookup ("least" : Str) = some (.int t.1) := by rfl
theorem cf_most (t : T3) : (cf t).lookup ("most" : Str) = some (.int t.2.1) := by rfl
theorem cf_days (t : T3) : (cf t).lookup ("days" : Str) = some (.int t.2.2) := by rfl
def spCop (C : Addr) (f : T3 → T3 → T3) : Sp := fun vs H Q _ => ∃ (x y : V) (a b : T3), vs = [x, y] ∧ CntAt C H x a ∧ CntAt C H y b ∧ 0 ≤ a.2.2 ∧ 0 ≤ a.2.1 ∧ 0 ≤ b.2.1 ∧ 0 ≤ b.2.2 ∧ ∀ H' p, Same H H' → CntAt C H' (.ref p) (f a b) → Q (.ref p) H'
def addT (a b : T3) : T3 := (a.1 + b.1, a.2.1 + b.2.1, max a.2.2 b.2.2)
def orT (a b : T3) : T3 := (min a.1 b.1, max a.2.1 b.2.1, max a.2.2 b.2.2)
theorem ok_Count_add (T : Tx K w mg) {k : Nat} : FnOk P w K mg base CX0 (k + 3) T.a_Count_add T.d_Count_add ["self", "other"] (spCop T.c_Count addT) := by
  have G_Count_init := ok_Count_init (P := P) (base := base) T (k := k)
  refine T.F_Count_add.ok sc_Count_add (fun vs H Q E h => ?_) (fun cdv A outer s H vs Q E hr h => ?_)
  · obtain ⟨x, y, a, b, rfl, _⟩ := h
    rfl
  obtain ⟨_, _, a, b, rfl, ⟨x, dx, rfl, hx⟩, ⟨y, dy, rfl, hy⟩, a0, _, _, b0, q⟩ := h
  refine ⟨_, (pss_one (ps_ret (pe_make T.mk_Count (G_Count_init) hr (by rfl) T.gc_Count T.b_Count_init .nil pass0 (pa_cons (pe_op op_add (pe_fld (pv 0) rfl) (pe_fld (pv 1) rfl)) (pa_cons (pe_op op_add (pe_fld (pv 0) rfl) (pe_fld (pv 1) rfl)) (pa_cons (pe_callB (call_max3 rfl) (by rfl) T.z_max (by decide +kernel) (pa_cons pe_int (pa_cons (pe_fld (pv 0) rfl) (pa_cons (pe_fld (pv 1) rfl) pa_nil)))) pa_nil)))))), ?_⟩
  refine ⟨_, rfl, x, _, dx, _, _, rfl, hx, T.cl_Count, T.n_least, cf_least a, _, rfl, y, _, dy, _, _, rfl, hy, T.cl_Count, T.n_least, cf_least b, _, _, rfl, rfl, ?_⟩
  refine ⟨_, rfl, x, _, dx, _, _, rfl, hx, T.cl_Count, T.n_most, cf_most a, _, rfl, y, _, dy, _, _, rfl, hy, T.cl_Count, T.n_most, cf_most b, _, _, rfl, rfl, ?_⟩
  refine ⟨_, rfl, x, _, dx, _, _, rfl, hx, T.cl_Count, T.n_days, cf_days a, _, rfl, y, _, dy, _, _, rfl, hy, T.cl_Count, T.n_days, cf_days b, 0, a.2.2, b.2.2, rfl, ?_⟩
  intro z dz nz ndz ne
  refine ⟨z, dz, _, _, _, rfl, upd_same, fun H1 h1 h2 => ⟨rfl, ?_⟩⟩
  obtain ⟨s1, c1⟩ := made_count nz ndz ne h1 h2
  rw [show max (max 0 a.2.2) b.2.2 = max a.2.2 b.2.2 by omega] at c1
  exact q H1 z s1 c1
theorem ok_Count_or (T : Tx K w mg) {k : Nat} : FnOk P w K mg base CX0 (k + 3) T.a_Count_or T.d_Count_or ["self", "other"] (spCop T.c_Count orT) := by
  have G_Count_init := ok_Count_init (P := P) (base := base) T (k := k)
  refine T.F_Count_or.ok sc_Count_or (fun vs H Q E h => ?_) (fun cdv A outer s H vs Q E hr h => ?_)
  · obtain ⟨x, y, a, b, rfl, _⟩ := h
    rfl
  obtain ⟨_, _, a, b, rfl, ⟨x, dx, rfl, hx⟩, ⟨y, dy, rfl, hy⟩, a0, a1, b1, b0, q⟩ := h
  refine ⟨_, (pss_cons (ps_set (i := 2) sc_Count_or.nd rfl (Or.inl rfl) (pe_fld (pv 0) rfl))
    (C8.pss_cut (ps_if (pt_cmpR op_lt (pe_fld (pv 1) rfl) (pv 2) (nomark _))
      (pss_one (ps_set (i := 2) sc_Count_or.nd rfl (Or.inl rfl) (pe_fld (pv 1) rfl)))
      pss_nil)
    (pss_one (ps_ret (pe_make T.mk_Count (G_Count_init) hr (by rfl) T.gc_Count T.b_Count_init .nil pass0 (pa_cons (pv 2) (pa_cons (pe_callB (call_max3 rfl) (by rfl) T.z_max (by decide +kernel) (pa_cons pe_int (pa_cons (pe_fld (pv 0) rfl) (pa_cons (pe_fld (pv 1) rfl) pa_nil)))) (pa_cons (pe_callB (call_max3 rfl) (by rfl) T.z_max (by decide +kernel) (pa_cons pe_int (pa_cons (pe_fld (pv 0) rfl) (pa_cons (pe_fld (pv 1) rfl) pa_nil)))) pa_nil)))))))), ?_⟩
  refine ⟨_, rfl, x, _, dx, _, _, rfl, hx, T.cl_Count, T.n_least, cf_least a, ?_⟩
  refine ⟨fun σ' H' => σ' = [some (.ref x), some (.ref y), some (.int (min a.1 b.1))] ∧ H' = H, ?_, ?_⟩
  · refine ⟨_, rfl, y, _, dy, _, _, rfl, hy, T.cl_Count, T.n_least, cf_least b, _, rfl, _, _, rfl, rfl, _, rfl, iteB (fun c => ?_) (fun c => ?_)⟩
    · have c' : b.1 < a.1 := of_decide_eq_true c
      refine ⟨_, rfl, y, _, dy, _, _, rfl, hy, T.cl_Count, T.n_least, cf_least b, ?_⟩
      rw [show min a.1 b.1 = b.1 by omega]
      exact ⟨rfl, rfl⟩
    · have c' : ¬ b.1 < a.1 := of_decide_eq_false c
      rw [show min a.1 b.1 = a.1 by omega]
      exact ⟨rfl, rfl⟩
  rintro σ' H' ⟨rfl, rfl⟩
  refine ⟨_, rfl, ?_⟩
  refine ⟨_, rfl, x, _, dx, _, _, rfl, hx, T.cl_Count, T.n_most, cf_most a, _, rfl, y, _, dy, _, _, rfl, hy, T.cl_Count, T.n_most, cf_most b, 0, a.2.1, b.2.1, rfl, ?_⟩
  refine ⟨_, rfl, x, _, dx, _, _, rfl, hx, T.cl_Count, T.n_days, cf_days a, _, rfl, y, _, dy, _, _, rfl, hy, T.cl_Count, T.n_days, cf_days b, 0, a.2.2, b.2.2, rfl, ?_⟩
  intro z dz nz ndz ne
  refine ⟨z, dz, _, _, _, rfl, upd_same, fun H1 h1 h2 => ⟨rfl, ?_⟩⟩
  obtain ⟨s1, c1⟩ := made_count nz ndz ne h1 h2
  rw [show max (max 0 a.2.2) b.2.2 = max a.2.2 b.2.2 by omega, show max (max 0 a.2.1) b.2.1 = max a.2.1 b.2.1 by omega] at c1
  exact q H1 z s1 c1
theorem un64 {k : Nat} {A : Around} (h : Room k A) : A.units + 64 < cLine := by have := h.un; omega
theorem dp_kd {H : Hp} {v : V} {k : Kd} (h : Dp K H v k.d) : (k = .once ∧ v = .str "once") ∨ ∃ a n d, k = .st n d ∧ v = .ref a ∧ SqT K H a [.int n, .int d] := by
  cases k with
  | once => cases h; exact .inl ⟨rfl, rfl⟩
  | st n d =>
    obtain ⟨a, xs, rfl, hs, ha⟩ := Dp.tup_inv h
    cases ha with
    | cons h1 h2 => cases h2 with
      | cons h3 h4 => cases h4; cases h1; cases h3; exact .inr ⟨a, n, d, rfl, rfl, hs⟩
theorem shaped_kd (k : Kd) : SeqAt.shaped k.d = true := by
  cases k with
  | once => decide +kernel
  | st n d => rfl
theorem shaped_once : SeqAt.shaped (.str "once") = true := by decide +kernel
theorem eqv_once (k : Kd) : PyData.eqv k.d (.str "once") = decide (k = .once) := by
  cases k with
  | once => rw [decide_eq_true rfl]; decide +kernel
  | st n d => rw [decide_eq_false (by intro z; cases z)]; rfl
def spCbox (K : PySem.W.Frag) (C : Addr) : Sp := fun vs H Q _ => ∃ (x v : V) (a : T3) (k : Kd), vs = [x, v] ∧ CntAt C H x a ∧ Dp K H v k.d ∧ k.ok ∧ ∀ H' p, Same H H' → CntAt C H' (.ref p) (k.bx a) → Q (.ref p) H'
theorem ok_Count_boxed (T : Tx K w mg) {k : Nat} : FnOk P w K mg base CX0 (k + 3) T.a_Count_boxed T.d_Count_boxed ["self", "kind"] (spCbox K T.c_Count) := by
  have G_Count_init := ok_Count_init (P := P) (base := base) T (k := k)
  refine T.F_Count_boxed.ok sc_Count_boxed (fun vs H Q E h => ?_) (fun cdv A outer s H vs Q E hr h => ?_)
  · obtain ⟨x, v, a, k, rfl, _⟩ := h
    rfl
  obtain ⟨_, v, a, kd, rfl, ⟨x, dx, rfl, hx⟩, hv, ok, q⟩ := h
  refine ⟨_, (pss_cons (ps_if (pt_cmpR (op_eqD hr.units) (pv 1) pe_str (nomark _))
      (pss_one (ps_ret (pe_make T.mk_Count (G_Count_init) hr (by rfl) T.gc_Count T.b_Count_init .nil pass0 (pa_cons (pe_fld (pv 0) rfl) (pa_cons (pe_fld (pv 0) rfl) (pa_cons (pe_fld (pv 0) rfl) pa_nil))))))
      pss_nil)
    (pss_one (ps_ret (pe_make T.mk_Count (G_Count_init) hr (by rfl) T.gc_Count T.b_Count_init .nil pass0 (pa_cons pe_int (pa_cons (pe_op op_mul (pe_ix ix_tup (pv 1) pe_int (fun _ _ => rfl)) (pe_fld (pv 0) rfl)) (pa_cons (pe_op op_add (pe_ix ix_tup (pv 1) pe_int (fun _ _ => rfl)) (pe_fld (pv 0) rfl)) pa_nil))))))), ?_⟩
  refine ⟨_, rfl, kd.d, .str "once", hv, .str _, shaped_kd kd, shaped_once, _, rfl, ?_⟩
  rw [eqv_once]
  refine iteB (fun c => ?_) (fun c => ?_)
  · have e : kd = .once := of_decide_eq_true c
    subst e
    refine ⟨_, rfl, x, _, dx, _, _, rfl, hx, T.cl_Count, T.n_least, cf_least a, _, rfl, x, _, dx, _, _, rfl, hx, T.cl_Count, T.n_most, cf_most a, _, rfl, x, _, dx, _, _, rfl, hx, T.cl_Count, T.n_days, cf_days a, ?_⟩
    intro z dz nz ndz ne
    refine ⟨z, dz, _, _, _, rfl, upd_same, fun H1 h1 h2 => ⟨rfl, ?_⟩⟩
    obtain ⟨s1, c1⟩ := made_count nz ndz ne h1 h2
    exact q H1 z s1 c1
  · have e : ¬ kd = .once := of_decide_eq_false c
    rcases dp_kd hv with ⟨h, _⟩ | ⟨b, n, d, rfl, rfl, hb⟩
    · exact absurd h e
    have n1 : 1 ≤ n := ok.1
    have n2 : n ≤ 1000000 := ok.2.1
    refine ⟨_, rfl, b, _, 0, .int n, rfl, rfl, hb, rfl, _, rfl, x, _, dx, _, _, rfl, hx, T.cl_Count, T.n_most, cf_most a, _, _, rfl, rfl, .inl ⟨by omega, by omega⟩, ?_⟩
    refine ⟨_, rfl, b, _, 1, .int d, rfl, rfl, hb, rfl, _, rfl, x, _, dx, _, _, rfl, hx, T.cl_Count, T.n_days, cf_days a, _, _, rfl, rfl, ?_⟩
    intro z dz nz ndz ne
    refine ⟨z, dz, _, _, _, rfl, upd_same, fun H1 h1 h2 => ⟨rfl, ?_⟩⟩
    obtain ⟨s1, c1⟩ := made_count nz ndz ne h1 h2
    exact q H1 z s1 c1
end
end HA

/-! The program's defs. -/
namespace HA
open PySem PySem.Spec PyProof.Rows L2
section
variable {P : Program} {w : World} {K : PySem.W.Frag} {mg : Str → Option Value} {base : Heap}
/-- a derivation's tuple at an address -/
theorem Row.at_ {H : Hp} {v : V} {t : Row} (h : Dp K H v t.d) : ∃ a xs, v = .ref a ∧ SqT K H a (.str t.name :: xs) ∧ DpAll K H xs (t.mid ++ t.kids.map Row.d) := by
  rw [Row.d_eq] at h
  obtain ⟨a, ys, rfl, hs, ha⟩ := h.tup_inv
  cases ha with
  | cons h1 h2 =>
    obtain rfl := h1.str_inv
    exact ⟨a, _, rfl, hs, h2⟩
theorem Row.len_mid (t : Row) : t.mid.length ≤ 3 := by cases t <;> simp [Row.mid]
theorem Row.len_kids (t : Row) : t.kids.length ≤ 2 := by cases t <;> simp [Row.kids]
def spPremises (K : PySem.W.Frag) : Sp := fun vs H Q _ => ∃ (v : V) (t : Row), vs = [v] ∧ Dp K H v t.d ∧
  ∀ H' p ws, Same H H' → H p = none → H' p = some (.lst ws) → DpAll K H' ws (t.kids.map Row.d) → Q (.ref p) H'
theorem ok_premises (T : Tx K w mg) {k : Nat} : FnOk P w K mg base CX0 (k + 1) T.a_premises T.d_premises ["derivation"] (spPremises K) := by
  refine T.F_premises.ok sc_premises (fun vs H Q E h => ?_) (fun cdv A outer s H vs Q E hr h => ?_)
  · obtain ⟨v, t, rfl, _⟩ := h
    rfl
  obtain ⟨v, t, rfl, ht, q⟩ := h
  obtain ⟨a, xs, rfl, hs, hx⟩ := Row.at_ ht
  refine ⟨_, (pss_cons (ps_set (i := 1) sc_premises.nd rfl (Or.inl rfl) (pe_ix ix_kdict (pe_glob (v := .ref T.p_PREMISES) rfl T.g_PREMISES rfl) (pe_ix ix_tup (pv 0) pe_int (fun _ _ => rfl)) (fun _ _ => rfl)))
    (pss_one (ps_ret (pe_callTy call_listN (by rfl) T.z_list (by decide +kernel) (pa_cons (pe_slice sl_tupN (pv 0) (po_some (pe_op op_sub (pe_callB call_len_seq (by rfl) T.z_len (by decide +kernel) (pa_cons (pv 0) pa_nil)) (pv 1))) po_none) pa_nil))))), ?_⟩
  refine ⟨.ref a, rfl, a, _, 0, .str t.name, rfl, rfl, hs, atI_at (j := 0) rfl rfl, T.p_PREMISES, t.name, _, rfl, rfl, T.prem t, ?_⟩
  refine ⟨.ref a, rfl, .ref a, rfl, a, _, rfl, .inr hs, _, rfl, _, _, rfl, rfl, _, rfl, a, _, rfl, hs, fun H1 b s1 hb => ?_⟩
  have hl := hx.len
  rw [List.length_append, List.length_map] at hl
  have e : ((xs.length + 1 : Nat) : Int) - (t.kids.length : Int) = ((t.mid.length + 1 : Nat) : Int) := by omega
  rw [List.length_cons, e, cut_from, List.drop_succ_cons] at hb
  refine ⟨b, _, rfl, .inr hb, fun H2 l s2 nl hl2 => q H2 l _ (s1.trans s2) (s1.free nl) hl2 ?_⟩
  have := (Dp.smAll (s1.trans s2) _ _ hx).drop t.mid.length
  rw [List.drop_left] at this
  exact this
def spRebuilt (K : PySem.W.Frag) : Sp := fun vs H Q _ => ∃ (v : V) (t : Row) (p : Addr) (ks : List V) (ds : List PyData),
  vs = [v, .ref p] ∧ Dp K H v t.d ∧ SqL K H p ks ∧ DpAll K H ks ds ∧ ds.length = t.kids.length ∧
  ∀ H' r, Same H H' → Dp K H' r (.tuple (.str t.name :: (t.mid ++ ds))) → Q r H'
theorem ok_rebuilt (T : Tx K w mg) {k : Nat} : FnOk P w K mg base CX0 (k + 1) T.a_rebuilt T.d_rebuilt ["derivation", "parts"] (spRebuilt K) := by
  refine T.F_rebuilt.ok sc_rebuilt (fun vs H Q E h => ?_) (fun cdv A outer s H vs Q E hr h => ?_)
  · obtain ⟨v, t, p, ks, ds, rfl, _⟩ := h
    rfl
  obtain ⟨v, t, p, ks, ds, rfl, ht, hp, hk, hn, q⟩ := h
  obtain ⟨a, xs, rfl, hs, hx⟩ := Row.at_ ht
  refine ⟨_, (pss_cons (ps_set (i := 2) sc_rebuilt.nd rfl (Or.inl rfl) (pe_ix ix_kdict (pe_glob (v := .ref T.p_PREMISES) rfl T.g_PREMISES rfl) (pe_ix ix_tup (pv 0) pe_int (fun _ _ => rfl)) (fun _ _ => rfl)))
    (pss_one (ps_ret (pe_op op_catN (pe_slice sl_tupN (pv 0) po_none (po_some (pe_op op_sub (pe_callB call_len_seq (by rfl) T.z_len (by decide +kernel) (pa_cons (pv 0) pa_nil)) (pv 2)))) (pe_callTy call_tupleN (by rfl) T.z_tuple (by decide +kernel) (pa_cons (pv 1) pa_nil)))))), ?_⟩
  refine ⟨.ref a, rfl, a, _, 0, .str t.name, rfl, rfl, hs, atI_at (j := 0) rfl rfl, T.p_PREMISES, t.name, _, rfl, rfl, T.prem t, ?_⟩
  refine ⟨.ref a, rfl, .ref a, rfl, a, _, rfl, .inr hs, _, rfl, _, _, rfl, rfl, _, rfl, a, _, rfl, hs, fun H1 b s1 hb => ?_⟩
  have hl := hx.len
  rw [List.length_append, List.length_map] at hl
  have e : ((xs.length + 1 : Nat) : Int) - (t.kids.length : Int) = ((t.mid.length + 1 : Nat) : Int) := by omega
  rw [List.length_cons, e, cut_to _ _ (by rw [List.length_cons]; omega), List.take_succ_cons] at hb
  refine ⟨.ref p, rfl, p, ks, rfl, .inl (s1.seq hp), fun H2 l s2 hl2 => ?_⟩
  have hkl := hk.len
  have lm := t.len_mid
  have lk := t.len_kids
  refine ⟨b, l, _, _, rfl, rfl, s2.seqT hb, hl2, sz_le ?_, fun H3 c s3 hc => q H3 _ ((s1.trans s2).trans s3) (.tup hc ?_)⟩
  · rw [List.length_cons, List.length_take]; omega
  · have h1 := (Dp.smAll ((s1.trans s2).trans s3) _ _ hx).take t.mid.length
    rw [List.take_left] at h1
    exact .cons (.str _) (h1.app (Dp.smAll ((s1.trans s2).trans s3) _ _ hk))
def refNames : List V := [.str "own", .str "pick", .str "pay", .str "open"]
theorem ref_name (t : Row) : inV (.str t.name) refNames = t.ref.isSome := by
  cases t <;> (dsimp only [Row.name, Row.ref, Option.isSome]; decide +kernel)
def Row.refV (t : Row) : V := match t.ref with
  | some r => kV r
  | none => .non
def spRefers (K : PySem.W.Frag) : Sp := fun vs H Q _ => ∃ (v : V) (t : Row), vs = [v] ∧ Dp K H v t.d ∧
  ∀ H', Same H H' → Q t.refV H'
theorem ok_refers (T : Tx K w mg) {k : Nat} : FnOk P w K mg base CX0 (k + 1) T.a_refers_to T.d_refers_to ["derivation"] (spRefers K) := by
  refine T.F_refers_to.ok sc_refers_to (fun vs H Q E h => ?_) (fun cdv A outer s H vs Q E hr h => ?_)
  · obtain ⟨v, t, rfl, _⟩ := h
    rfl
  obtain ⟨v, t, rfl, ht, q⟩ := h
  obtain ⟨a, xs, rfl, hs, hx⟩ := Row.at_ ht
  refine ⟨_, (pss_cons (ps_if (pt_cmpR op_in_seq (pe_ix ix_tup (pv 0) pe_int (fun _ _ => rfl)) (pe_tupN (pa_cons pe_str (pa_cons pe_str (pa_cons pe_str (pa_cons pe_str pa_nil))))) (by rfl))
      (pss_one (ps_ret (pe_ix ix_tup (pv 0) pe_int (fun _ _ => rfl))))
      pss_nil)
    (pss_one (ps_ret pe_non))), ?_⟩
  refine ⟨.ref a, rfl, a, _, 0, .str t.name, rfl, rfl, hs, atI_at (j := 0) rfl rfl, by decide, fun H1 p s1 np hp => ?_⟩
  refine ⟨p, _, rfl, .inr (SqT.of hp), rfl, rfl, _, rfl, ?_⟩
  refine iteB (fun e => ?_) fun e => ?_
  · have e' : inV (.str t.name) refNames = true := e
    rw [ref_name] at e'
    cases hr' : t.ref with
    | none => rw [hr'] at e'; cases e'
    | some r =>
      obtain ⟨m, hm⟩ := Row.mid_some hr'
      rw [hm] at hx
      cases hx with
      | cons h1 h2 =>
        obtain rfl := h1.key_inv
        refine ⟨.ref a, rfl, a, _, 1, kV r, rfl, rfl, s1.seqT hs, atI_at (j := 1) rfl rfl, ?_⟩
        have := q H1 s1
        unfold Row.refV at this
        rw [hr'] at this
        exact this
  · have e' : inV (.str t.name) refNames = false := e
    rw [ref_name] at e'
    cases hr' : t.ref with
    | some r => rw [hr'] at e'; cases e'
    | none =>
      have := q H1 s1
      unfold Row.refV at this
      rw [hr'] at this
      exact this
def spMref : Sp := fun vs H Q _ => ∃ (r : Key) (old new : Int) (R : Addr) (ρ : Ren), vs = [kV r, .int old, .int new, .ref R] ∧
  H R = some (.dK ρ.kv) ∧ Q (kV (mvRef old new ρ r)) H
theorem ok_mref (T : Tx K w mg) {k : Nat} : FnOk P w K mg base CX0 (k + 1) T.a_moved_ref T.d_moved_ref ["ref", "old", "new", "renamed"] spMref := by
  refine T.F_moved_ref.ok sc_moved_ref (fun vs H Q E h => ?_) (fun cdv A outer s H vs Q E hr h => ?_)
  · obtain ⟨r, old, new, R, ρ, rfl, _⟩ := h
    rfl
  obtain ⟨r, old, new, R, ρ, rfl, hR, q⟩ := h
  obtain ⟨ty, h1, h2, _⟩ := ty_key (K := K) (H := H) r
  refine ⟨_, (pss_cons (ps_if (PW.pt (pw_and (pt_val (pe_callB call_isi (by rfl) T.z_isinstance (by decide +kernel) (pa_cons (pv 0) (pa_cons (pe_bltn (v := .ty "int") (by rfl) T.z_int (by decide +kernel) rfl) pa_nil)))) (pw_and1 (pt_cmpR op_ge (pv 0) (pv 1) (nomark _)))))
      (pss_one (ps_ret (pe_op op_sub (pe_op op_add (pv 0) (pv 2)) (pv 1))))
      pss_nil)
    (pss_cons (ps_if (pt_cmp (pc_din (hu_of hr) (pv 0) (pv 3)))
      (pss_one (ps_ret (pe_dget (hu_of hr) (pv 3) (pv 0) (fun _ _ => rfl))))
      pss_nil)
    (pss_one (ps_ret (pv 0))))), ?_⟩
  refine ⟨_, rfl, _, _, ty, .type "int", _, rfl, .ty _, h1, h2, _, rfl, ?_⟩
  have look : mvRef old new ρ r = ρ.to r → tSeq (tIfS (tB (tDIn (tVar 0) (tVar 3))) (tRet (tDGet (tVar 3) (tVar 0))) tNext) (tRet (tVar 0))
      { nx := fun x H' => Q V.non H', rt := Q } (L2.start N_moved_ref [kV r, V.int old, V.int new, V.ref R]) H := fun hn => by
    have e := Ren.valV ρ r
    have g : DGet H R (kV r) _ := DGet.k (k := r) hR
    refine ⟨_, rfl, _, rfl, R, _, rfl, g, _, rfl, ?_⟩
    rw [hn] at q
    unfold Ren.to at q
    rw [e] at g ⊢
    cases hl : ρ.look r with
    | none =>
      rw [hl] at q
      exact iteF ⟨_, rfl, q⟩
    | some z =>
      rw [hl] at q g
      exact iteT ⟨_, rfl, _, rfl, R, _, rfl, g, q⟩
  cases r with
  | inl i =>
    refine iteT ⟨_, rfl, _, rfl, i, old, rfl, rfl, _, rfl, ?_⟩
    refine ite2 (c := decide (old ≤ i) = true) (fun h => ?_) fun h => ?_
    · have h' := of_decide_eq_true h
      refine ⟨_, rfl, _, rfl, _, _, rfl, rfl, _, rfl, _, _, rfl, rfl, ?_⟩
      have e : mvRef old new ρ (.inl i) = .inl (i + new - old) := if_pos h'
      rw [e] at q
      exact q
    · refine look ?_
      unfold mvRef
      exact if_neg fun z => h (decide_eq_true z)
  | inr x => exact look rfl
theorem Kd.tu (k : Kd) : HA.tu k.d = true := by cases k <;> rfl
theorem Sn.tu (s : Sn) : HA.tu s.d = true := by
  induction s with
  | word x => rfl
  | menu a b h1 h2 =>
    show (true && (HA.tu a.d && (HA.tu b.d && true))) = true
    rw [h1, h2]; rfl
  | trade k a b h1 h2 =>
    show (true && (HA.tu k.d && (HA.tu a.d && (HA.tu b.d && true)))) = true
    rw [h1, h2, k.tu]; rfl
theorem Row.tu (t : Row) : HA.tu t.d = true := by
  induction t <;> simp only [Row.d, HA.tu, HA.tuAll, tu_key, Kd.tu, Sn.tu, Bool.and_self, *]
theorem Row.tuKids (l : List Row) : tuAll (l.map Row.d) = true := by
  induction l with
  | nil => rfl
  | cons t l ih =>
    show (HA.tu t.d && tuAll (l.map Row.d)) = true
    rw [ih, t.tu]; rfl
/-- a list that was made and grows, while all that stood stays -/
theorem grown {H1 : Hp} {D : Addr} {acc : List V} {ds : List PyData} {y : V} {d : PyData} (e : H1 D = some (.lst acc)) (h : DpAll K H1 acc ds) (hy : Dp K H1 y d) (t : tuAll ds = true) (t' : HA.tu d = true) :
    DpAll K (upd H1 D (.lst (acc ++ [y]))) (acc ++ [y]) (ds ++ [d]) := by
  have k : Kp [D] H1 (upd H1 D (.lst (acc ++ [y]))) := Kp.wr (.head _)
  exact (Dp.kpAll k (Lsts.one e) _ _ t h).app (.cons (Dp.kp k (Lsts.one e) _ _ t' hy) .nil)
def spMoved (K : PySem.W.Frag) (n : Nat) : Sp := fun vs H Q _ => ∃ (v : V) (t : Row) (old new : Int) (R : Addr) (ρ : Ren),
  vs = [v, .int old, .int new, .ref R] ∧ Dp K H v t.d ∧ t.ht ≤ n ∧ H R = some (.dK ρ.kv) ∧
  ∀ H' r, Same H H' → Dp K H' r (t.mv old new ρ).d → Q r H'
theorem moved_step (T : Tx K w mg) {n : Nat} (G_moved : FnOk P w K mg base CX0 (n + 1) T.a_moved T.d_moved ["derivation", "old", "new", "renamed"] (spMoved K n)) :
    FnOk P w K mg base CX0 (n + 2) T.a_moved T.d_moved ["derivation", "old", "new", "renamed"] (spMoved K (n + 1)) := by
  have G_premises := ok_premises (P := P) (base := base) T (k := n)
  have G_rebuilt := ok_rebuilt (P := P) (base := base) T (k := n)
  have G_refers_to := ok_refers (P := P) (base := base) T (k := n)
  have G_moved_ref := ok_mref (P := P) (base := base) T (k := n)
  refine T.F_moved.ok sc_moved (fun vs H Q E h => ?_) (fun cdv A outer s H vs Q E hr h => ?_)
  · obtain ⟨v, t, old, new, R, ρ, rfl, _⟩ := h
    rfl
  obtain ⟨v, t, old, new, R, ρ, rfl, ht, hn, hR, q⟩ := h
  refine ⟨_, (pss_cons (ps_setLc (i := 4) (own := [("premise", 7)]) (g := gName 7) rfl sc_moved.nd rfl rfl (sw_true rfl rfl rfl (by decide +kernel)) (pi_list (pe_call (G_premises) hr (by rfl) T.g_premises T.k_premises T.b_premises .nil pass0 (pa_cons (pv 0) pa_nil))) (blkOk_by (own := [("premise", 7)]) (N := N_moved) (sc := defScope s_moved) (by decide +kernel)) (fun _ _ _ _ _ => pg_name (i := 7) sc_moved.nd rfl (Or.inl rfl)) (fun _ _ _ _ _ => pts_nil) (fun _ _ _ _ _ => (pe_call (G_moved) hr (by rfl) T.g_moved T.k_moved T.b_moved .nil pass0 (pa_cons (pv 7) (pa_cons (pv 1) (pa_cons (pv 2) (pa_cons (pv 3) pa_nil)))))))
    (pss_cons (ps_set (i := 5) sc_moved.nd rfl (Or.inl rfl) (pe_call (G_rebuilt) hr (by rfl) T.g_rebuilt T.k_rebuilt T.b_rebuilt .nil pass0 (pa_cons (pv 0) (pa_cons (pv 4) pa_nil))))
    (pss_cons (ps_set (i := 6) sc_moved.nd rfl (Or.inl rfl) (pe_call (G_refers_to) hr (by rfl) T.g_refers_to T.k_refers_to T.b_refers_to .nil pass0 (pa_cons (pv 0) pa_nil)))
    (pss_cons (ps_if (pt_cmpR op_isN (pv 6) pe_non (nomark _))
      (pss_one (ps_ret (pv 5)))
      pss_nil)
    (pss_one (ps_ret (pe_op op_catN (pe_tupN (pa_cons (pe_ix ix_tup (pv 5) pe_int (fun _ _ => rfl)) (pa_cons (pe_call (G_moved_ref) hr (by rfl) T.g_moved_ref T.k_moved_ref T.b_moved_ref .nil pass0 (pa_cons (pv 6) (pa_cons (pv 1) (pa_cons (pv 2) (pa_cons (pv 3) pa_nil))))) pa_nil))) (pe_slice sl_tupN (pv 5) (po_some pe_int) po_none)))))))), ?_⟩
  -- parts = [moved(premise, old, new, renamed) for premise in premises(derivation)]
  refine ⟨v, rfl, v, t, rfl, ht, fun H1 p ws s1 np hp hw => ⟨p, rfl, ⟨ws, SqL.of hp⟩, fun D nD => ?_⟩⟩
  have lw := hw.len
  rw [List.length_map] at lw
  refine lc_list (xs := ws) (fun i H2 => Same H1 H2 ∧ ∃ acc, H2 D = some (.lst acc) ∧ DpAll K H2 acc (((t.kids.take i).map (Row.mv old new ρ)).map Row.d))
    ⟨Same.new nD, [], upd_same, .nil⟩ (fun i H2 _ pv => pv.1.seq (SqL.of hp)) (fun i x H2 hi pv => ?_) fun H2 pv => ?_
  · obtain ⟨s2, acc, hD, ha⟩ := pv
    obtain ⟨d, hd, hx⟩ := hw.atV hi
    rw [List.getElem?_map] at hd
    cases hc : t.kids[i]? with
    | none => rw [hc] at hd; cases hd
    | some c =>
      rw [hc] at hd
      cases hd
      have cm : c ∈ t.kids := List.mem_of_getElem? hc
      refine ⟨rfl, ?_⟩
      refine ⟨_, rfl, _, rfl, _, rfl, _, rfl, x, c, old, new, R, ρ, rfl, Dp.sm s2 _ _ hx, by have := Row.ht_kid cm; omega, s2 _ _ (s1 _ _ hR), fun H3 r s3 hr3 => ?_⟩
      have hD3 := s3 _ _ hD
      have la : acc.length ≤ 100000 := by
        have h1 := ha.len
        have h2 := t.len_kids
        rw [List.length_map, List.length_map, List.length_take] at h1
        omega
      refine ⟨acc, hD3, sz_lt la, Same.mut (s2.trans s3) nD, acc ++ [r], upd_same, ?_⟩
      rw [List.take_add_one, hc]
      simp only [Option.toList, List.map_append, List.map_cons, List.map_nil]
      exact grown hD3 (Dp.smAll s3 _ _ ha) hr3 (Row.tuKids _) (Row.tu _)
  · obtain ⟨s2, acc, hD, ha⟩ := pv
    rw [lw, List.take_length] at ha
    -- result = rebuilt(derivation, parts)
    have s12 := s1.trans s2
    refine ⟨v, rfl, .ref D, rfl, v, t, D, acc, _, rfl, Dp.sm s12 _ _ ht, SqL.of hD, ha, by simp, fun H3 r s3 hr3 => ?_⟩
    -- ref = refers_to(derivation)
    refine ⟨v, rfl, v, t, rfl, Dp.sm (s12.trans s3) _ _ ht, fun H4 s4 => ?_⟩
    have s04 := (s12.trans s3).trans s4
    refine ⟨_, rfl, rfl, _, rfl, ?_⟩
    cases hf : t.ref with
    | none =>
      have e : t.refV = .non := by unfold Row.refV; rw [hf]
      rw [e]
      refine iteT ⟨r, rfl, q H4 r s04 ?_⟩
      rw [Row.mv_none hf]
      exact Dp.sm s4 _ _ hr3
    | some f =>
      have e : t.refV = kV f := by unfold Row.refV; rw [hf]
      obtain ⟨m, hm⟩ := Row.mid_some hf
      rw [e]
      have nn : ¬ kV f = .non := by cases f <;> intro z <;> cases z
      rw [hm] at hr3
      obtain ⟨b, ys, rfl, hb, hys⟩ := (Dp.sm s4 _ _ hr3).tup_inv
      cases hys with
      | cons y0 hys =>
        obtain rfl := y0.str_inv
        cases hys with
        | cons y1 hys =>
          obtain rfl := y1.key_inv
          refine iteB (fun z => absurd (of_decide_eq_true z) nn) fun _ => ?_
          refine ⟨.ref b, rfl, b, _, 0, .str t.name, rfl, rfl, hb, atI_at (j := 0) rfl rfl, ?_⟩
          refine ⟨_, rfl, _, rfl, _, rfl, _, rfl, f, old, new, R, ρ, rfl, s04 _ _ hR, (by show 2 ≤ 1000; decide), fun H5 c s5 nc hc => ?_⟩
          refine ⟨.ref b, rfl, 2, rfl, b, _, rfl, s5.seqT hb, fun H6 g s6 hg => ?_⟩
          rw [show (2 : Int) = ((2 : Nat) : Int) from rfl, cut_from, List.drop_succ_cons, List.drop_succ_cons, List.drop_zero] at hg
          have ly : _ = (m ++ List.map Row.d (List.map (Row.mv old new ρ) t.kids)).length := hys.len
          have lm := t.len_mid
          have lk := t.len_kids
          rw [hm, List.length_cons] at lm
          rw [List.length_append, List.length_map, List.length_map] at ly
          refine ⟨c, g, _, _, rfl, rfl, s6.seqT (SqT.of hc), hg, sz_le ?_, fun H7 z s7 hz => q H7 _ (((s04.trans s5).trans s6).trans s7) ?_⟩
          · simp only [List.length_cons, List.length_nil]; omega
          · rw [Row.mv_some hf hm]
            exact .tup hz (.cons (.str _) (.cons (Dp.key _) (Dp.smAll ((s5.trans s6).trans s7) _ _ hys)))
theorem ok_moved (T : Tx K w mg) : ∀ n : Nat, FnOk P w K mg base CX0 (n + 1) T.a_moved T.d_moved ["derivation", "old", "new", "renamed"] (spMoved K n)
  | 0 => by
    have no : ∀ vs H Q E, ¬ spMoved K 0 vs H Q E := fun vs H Q E h => by
      obtain ⟨v, t, old, new, R, ρ, _, _, hn, _⟩ := h
      have := t.ht_pos
      omega
    exact ⟨fun vs H Q E h => absurd h (no vs H Q E), fun A outer s H args us vs Q E _ _ _ _ h => absurd h (no vs H Q E)⟩
  | n + 1 => moved_step T (ok_moved T n)
end
end HA

/-! The law's own walk over rows. -/
namespace HA
open PySem PySem.Spec PyProof.Rows L2
def rowNames : List V := [.str "own", .str "take", .str "offer", .str "pick", .str "pay", .str "make", .str "open", .str "cut", .str "cite"]
/-- what stands in a row: a number, a text, a tuple that begins with one -/
inductive ItemOk : PyData → Prop
  | int (i : Int) : ItemOk (.int i)
  | str (x : Str) : ItemOk (.str x)
  | tupI (i : Int) (ds : List PyData) : ItemOk (.tuple (.int i :: ds))
  | tupS (x : Str) (ds : List PyData) : ItemOk (.tuple (.str x :: ds))
def rowD : PyData → Bool
  | .tuple (.str x :: _) => inV (.str x) rowNames
  | _ => false
theorem item_key (r : Key) : ItemOk (kD r) ∧ rowD (kD r) = false := by
  cases r with
  | inl i => exact ⟨.int i, rfl⟩
  | inr x => exact ⟨.str x, rfl⟩
theorem item_kd (k : Kd) : ItemOk k.d ∧ rowD k.d = false := by
  cases k with
  | once => exact ⟨.str _, rfl⟩
  | st n k => exact ⟨.tupI _ _, rfl⟩
theorem item_sn (s : Sn) : ItemOk s.d ∧ rowD s.d = false := by
  cases s with
  | word x => exact ⟨.tupS _ _, by show inV (.str "word") rowNames = false; decide +kernel⟩
  | menu a b => exact ⟨.tupS _ _, by show inV (.str "menu") rowNames = false; decide +kernel⟩
  | trade k a b => exact ⟨.tupS _ _, by show inV (.str "trade") rowNames = false; decide +kernel⟩
theorem all_nil {p : PyData → Prop} : ∀ x ∈ ([] : List PyData), p x := fun x h => by cases h
theorem all_cons {p : PyData → Prop} {d : PyData} {l : List PyData} (h : p d) (r : ∀ x ∈ l, p x) : ∀ x ∈ d :: l, p x := fun x m => by
  rcases List.mem_cons.mp m with rfl | m
  · exact h
  · exact r x m
theorem item_str (x : Str) : ItemOk (.str x) ∧ rowD (.str x) = false := ⟨.str x, rfl⟩
theorem item_int (i : Int) : ItemOk (.int i) ∧ rowD (.int i) = false := ⟨.int i, rfl⟩
theorem item_mid (t : Row) : ∀ d ∈ t.mid, ItemOk d ∧ rowD d = false := by
  cases t with
  | own r => exact all_cons (item_key r) all_nil
  | cite x => exact all_cons (item_str x) all_nil
  | take b => exact all_nil
  | pick r s b => exact all_cons (item_key r) (all_cons (item_str s) all_nil)
  | make x i b => exact all_cons (item_str x) (all_cons (item_int i) all_nil)
  | opn r x i b => exact all_cons (item_key r) (all_cons (item_str x) (all_cons (item_int i) all_nil))
  | offer a b => exact all_nil
  | pay r k a b => exact all_cons (item_key r) (all_cons (item_kd k) all_nil)
  | cut k s a b => exact all_cons (item_kd k) (all_cons (item_sn s) all_nil)
theorem item_row (t : Row) : ItemOk t.d ∧ rowD t.d = true := by
  rw [Row.d_eq]
  refine ⟨.tupS _ _, ?_⟩
  show inV (.str t.name) rowNames = true
  cases t <;> (dsimp only [Row.name]; decide +kernel)
def Row.midMv (old new : Int) (ρ : Ren) (t : Row) : List PyData := match t.ref, t.mid with
  | some r, _ :: m => kD (mvRef old new ρ r) :: m
  | _, m => m
theorem Row.mv_items (old new : Int) (ρ : Ren) (t : Row) : (t.mv old new ρ).d = .tuple (.str t.name :: (t.midMv old new ρ ++ (t.kids.map (mv old new ρ)).map d)) := by
  cases t <;> rfl
theorem Row.midMv_len (old new : Int) (ρ : Ren) (t : Row) : (t.midMv old new ρ).length = t.mid.length := by
  cases t <;> rfl
/-- the item behind the name that is no kid -/
theorem Row.mid_at {old new : Int} {ρ : Ren} {t : Row} {j : Nat} {d : PyData} (h : t.mid[j]? = some d) (n : ¬ (j = 0 ∧ t.ref.isSome = true)) : (t.midMv old new ρ)[j]? = some d := by
  unfold Row.midMv
  cases hr : t.ref with
  | none => exact h
  | some r =>
    obtain ⟨m, hm⟩ := Row.mid_some hr
    rw [hm] at h ⊢
    cases j with
    | zero => exact absurd ⟨rfl, by rw [hr]; rfl⟩ n
    | succ j => exact h
theorem tuAll_take : ∀ (n : Nat) (l : List PyData), tuAll l = true → tuAll (l.take n) = true
  | 0, _, _ => rfl
  | _ + 1, [], _ => rfl
  | n + 1, x :: l, h => by
    have h' : (tu x && tuAll l) = true := h
    rw [Bool.and_eq_true] at h'
    show (tu x && tuAll (l.take n)) = true
    rw [h'.1, tuAll_take n l h'.2]
    rfl
theorem tuAll_at : ∀ (i : Nat) (l : List PyData) (d : PyData), tuAll l = true → l[i]? = some d → tu d = true
  | _, [], _, _, e => by cases e
  | 0, x :: l, d, h, e => by
    have h' : (tu x && tuAll l) = true := h
    rw [Bool.and_eq_true] at h'
    cases e
    exact h'.1
  | i + 1, x :: l, d, h, e => by
    have h' : (tu x && tuAll l) = true := h
    rw [Bool.and_eq_true] at h'
    exact tuAll_at i l d h'.2 e
section
variable {P : Program} {w : World} {K : PySem.W.Frag} {mg : Str → Option Value} {base : Heap}
def spRow (K : PySem.W.Frag) : Sp := fun vs H Q _ => ∃ (v : V) (d : PyData), vs = [v] ∧ Dp K H v d ∧ ItemOk d ∧
  ∀ H', Same H H' → Q (.bl (rowD d)) H'
theorem ok_row (T : Tx K w mg) {k : Nat} : FnOk P w K mg base CX0 (k + 1) T.a__law_row T.d__law_row ["item"] (spRow K) := by
  refine T.F__law_row.ok sc__law_row (fun vs H Q E h => ?_) (fun cdv A outer s H vs Q E hr h => ?_)
  · obtain ⟨v, d, rfl, _⟩ := h
    rfl
  obtain ⟨v, d, rfl, hd, ok, q⟩ := h
  refine ⟨_, (pss_cons (ps_set (i := 1) sc__law_row.nd rfl (Or.inl rfl) (pe_tupN (pa_cons pe_str (pa_cons pe_str (pa_cons pe_str (pa_cons pe_str (pa_cons pe_str (pa_cons pe_str (pa_cons pe_str (pa_cons pe_str (pa_cons pe_str pa_nil)))))))))))
    (pss_one (ps_ret (pe_and (pe_callB call_isi (by rfl) T.z_isinstance (by decide +kernel) (pa_cons (pv 0) (pa_cons (pe_bltn (v := .ty "tuple") (by rfl) T.z_tuple (by decide +kernel) rfl) pa_nil))) (pe_and (pe_cmpR op_gt (pe_callB call_len_seq (by rfl) T.z_len (by decide +kernel) (pa_cons (pv 0) pa_nil)) pe_int (nomark _)) (pe_one (pe_cmpR op_in_seq (pe_ix ix_tup (pv 0) pe_int (fun _ _ => rfl)) (pv 1) (by rfl)))))))), ?_⟩
  refine ⟨by decide, fun H1 p s1 np hp => ?_⟩
  have q1 := q H1 s1
  cases ok with
  | int i =>
    obtain rfl := hd.int_inv
    exact ⟨_, rfl, _, _, _, _, _, rfl, .ty _, ty_int i, kit_it, _, rfl, iteF q1⟩
  | str x =>
    obtain rfl := hd.str_inv
    exact ⟨_, rfl, _, _, _, _, _, rfl, .ty _, ty_str x, kit_st, _, rfl, iteF q1⟩
  | tupI i ds =>
    obtain ⟨a, xs, rfl, hs, hx⟩ := hd.tup_inv
    cases hx with
    | cons h1 h2 =>
      obtain rfl := h1.int_inv
      refine ⟨_, rfl, _, _, _, _, _, rfl, .ty _, ty_tup (s1.seqT hs), kit_tt, _, rfl, iteT ?_⟩
      refine ⟨_, rfl, a, _, rfl, .inr (s1.seqT hs), _, _, rfl, rfl, _, rfl, ?_⟩
      refine ite2 (fun _ => ?_) fun z => absurd (decide_eq_true (show (0 : Int) < (((V.int i :: _ : List V).length : Nat) : Int) by rw [List.length_cons]; omega)) z
      exact ⟨_, rfl, a, _, 0, .int i, rfl, rfl, s1.seqT hs, atI_at (j := 0) rfl rfl, _, rfl, p, _, rfl, .inr (SqT.of hp), rfl, rfl, q1⟩
  | tupS x ds =>
    obtain ⟨a, xs, rfl, hs, hx⟩ := hd.tup_inv
    cases hx with
    | cons h1 h2 =>
      obtain rfl := h1.str_inv
      refine ⟨_, rfl, _, _, _, _, _, rfl, .ty _, ty_tup (s1.seqT hs), kit_tt, _, rfl, iteT ?_⟩
      refine ⟨_, rfl, a, _, rfl, .inr (s1.seqT hs), _, _, rfl, rfl, _, rfl, ?_⟩
      refine ite2 (fun _ => ?_) fun z => absurd (decide_eq_true (show (0 : Int) < (((V.str x :: _ : List V).length : Nat) : Int) by rw [List.length_cons]; omega)) z
      exact ⟨_, rfl, a, _, 0, .str x, rfl, rfl, s1.seqT hs, atI_at (j := 0) rfl rfl, _, rfl, p, _, rfl, .inr (SqT.of hp), rfl, rfl, q1⟩
theorem lmoved_step (T : Tx K w mg) {n : Nat} (G__law_moved : FnOk P w K mg base CX0 (n + 1) T.a__law_moved T.d__law_moved ["tree", "old", "new", "names"] (spMoved K n)) :
    FnOk P w K mg base CX0 (n + 2) T.a__law_moved T.d__law_moved ["tree", "old", "new", "names"] (spMoved K (n + 1)) := by
  have G__law_row := ok_row (P := P) (base := base) T (k := n)
  refine T.F__law_moved.ok sc__law_moved (fun vs H Q E h => ?_) (fun cdv A outer s H vs Q E hr h => ?_)
  · obtain ⟨v, t, old, new, R, ρ, rfl, _⟩ := h
    rfl
  obtain ⟨v, t, old, new, R, ρ, rfl, ht, hn, hR, q⟩ := h
  obtain ⟨a, xs, rfl, hs, hx⟩ := Row.at_ ht
  have hl := hx.len
  rw [List.length_append, List.length_map] at hl
  have lm := t.len_mid
  have lk := t.len_kids
  refine ⟨_, (pss_cons (ps_set (i := 4) sc__law_moved.nd rfl (Or.inl rfl) (pe_lstN pa_nil))
    (pss_cons (ps_for PassesOwn.never rfl (pi_range1 (by rfl) T.z_range (pa_cons (pe_callB call_len_seq (by rfl) T.z_len (by decide +kernel) (pa_cons (pv 0) pa_nil)) pa_nil)) (pg_name (i := 5) sc__law_moved.nd rfl (Or.inl rfl))
      (pss_cons (ps_set (i := 6) sc__law_moved.nd rfl (Or.inl rfl) (pe_ix ix_tup (pv 0) (pv 5) (fun _ _ => rfl)))
      (C8.pss_cut (ps_if (PW.pt (pw_and (pt_cmpR op_eq (pv 5) pe_int (nomark _)) (pw_and1 (pt_cmpR op_in_seq (pe_ix ix_tup (pv 0) pe_int (fun _ _ => rfl)) (pe_tupN (pa_cons pe_str (pa_cons pe_str (pa_cons pe_str (pa_cons pe_str pa_nil))))) (by rfl)))))
        (pss_one (ps_if (PW.pt (pw_and (pt_val (pe_callB call_isi (by rfl) T.z_isinstance (by decide +kernel) (pa_cons (pv 6) (pa_cons (pe_bltn (v := .ty "int") (by rfl) T.z_int (by decide +kernel) rfl) pa_nil)))) (pw_and1 (pt_cmpR op_ge (pv 6) (pv 1) (nomark _)))))
          (pss_one (ps_set (i := 6) sc__law_moved.nd rfl (Or.inl rfl) (pe_op op_sub (pe_op op_add (pv 6) (pv 2)) (pv 1))))
          (pss_one (ps_set (i := 6) sc__law_moved.nd rfl (Or.inl rfl) (pe_dget2 (hu_of hr) (pv 3) (pv 6) (pv 6) ⟨rfl, rfl, rfl, rfl⟩)))))
        (pss_one (ps_if (PW.pt (pw_and (pt_cmpR op_gt (pv 5) pe_int (nomark _)) (pw_and1 (pt_val (pe_call (G__law_row) hr (by rfl) T.g__law_row T.k__law_row T.b__law_row .nil pass0 (pa_cons (pv 6) pa_nil))))))
          (pss_one (ps_set (i := 6) sc__law_moved.nd rfl (Or.inl rfl) (pe_call (G__law_moved) hr (by rfl) T.g__law_moved T.k__law_moved T.b__law_moved .nil pass0 (pa_cons (pv 6) (pa_cons (pv 1) (pa_cons (pv 2) (pa_cons (pv 3) pa_nil)))))))
          pss_nil)))
      (pss_one (ps_expr (pe_bm PySem.F.plainAttrs_list PySem.F.slot_list_append PySem.F.type_list_append mt_append (pv 4) (pa_cons (pv 6) pa_nil)))))))
    (pss_one (ps_ret (pe_callTy call_tupleN (by rfl) T.z_tuple (by decide +kernel) (pa_cons (pv 4) pa_nil)))))), ?_⟩
  -- out = []
  refine ⟨Nat.zero_le _, fun H1 O s1 nO hO => ?_⟩
  -- for k in range(len(tree))
  refine ⟨_, rfl, a, _, rfl, .inr (s1.seqT hs), _, rfl, by rw [List.length_cons]; omega, by rw [List.length_cons]; omega, ?_⟩
  refine for_range (lo := 0) (n := (((V.str t.name :: xs).length : Nat) : Int).toNat) (fun i σ' H' => ∃ y5 y6, σ' = [some (.ref a), some (.int old), some (.int new), some (.ref R), some (.ref O), y5, y6] ∧ Same H H' ∧
      ∃ acc, H' O = some (.lst acc) ∧ DpAll K H' acc ((PyData.str t.name :: (t.midMv old new ρ ++ (t.kids.map (Row.mv old new ρ)).map Row.d)).take i))
    ⟨none, none, rfl, s1, [], hO, .nil⟩ ?_ ?_
  · rintro i σ' H' hi ⟨y5, y6, rfl, s', acc, hO', hacc⟩
    have hi' : i < xs.length + 1 := by rw [List.length_cons] at hi; omega
    have ai : ∃ x, (V.str t.name :: xs)[i]? = some x := ⟨_, List.getElem?_eq_getElem (by rw [List.length_cons]; exact hi')⟩
    obtain ⟨x, hxi⟩ := ai
    -- item = tree[k]
    refine ⟨_, rfl, _, rfl, a, _, _, x, rfl, rfl, s'.seqT hs, atI_at (j := i) (Int.zero_add _) hxi, ?_⟩
    have tt : tuAll (PyData.str t.name :: (t.midMv old new ρ ++ (t.kids.map (Row.mv old new ρ)).map Row.d)) = true := by
      have := (t.mv old new ρ).tu
      rw [Row.mv_items] at this
      exact this
    -- the item's new value, then out.append(item)
    refine ⟨fun σ' H2 => ∃ y d', σ' = [some (.ref a), some (.int old), some (.int new), some (.ref R), some (.ref O), some (.int (0 + (i : Int))), some y] ∧ Same H' H2 ∧
      (PyData.str t.name :: (t.midMv old new ρ ++ (t.kids.map (Row.mv old new ρ)).map Row.d))[i]? = some d' ∧ Dp K H2 y d', ?_, ?_⟩
    rotate_left
    · rintro σ' H2 ⟨y, d', rfl, s2, hd', hy⟩
      have hO2 := s2 _ _ hO'
      have la := hacc.len
      rw [List.length_take, List.length_cons, List.length_append, Row.midMv_len, List.length_map, List.length_map] at la
      refine ⟨_, rfl, .inl ⟨rfl, _, SqL.of hO2⟩, _, rfl, O, acc, _, rfl, rfl, hO2, sz_lt (by omega), _, _, rfl, Same.mut (s'.trans s2) nO, _, upd_same, ?_⟩
      rw [List.take_add_one, hd']
      exact grown hO2 (Dp.smAll s2 _ _ hacc) hy (tuAll_take _ _ tt) (tuAll_at _ _ _ tt hd')
    refine ⟨_, rfl, rfl, _, rfl, ?_⟩
    cases i with
    | zero =>
      cases hxi
      refine iteB (fun z => absurd (of_decide_eq_true z) (fun z => by cases z)) fun _ => iteF ?_
      refine ⟨_, rfl, _, _, rfl, rfl, _, rfl, ?_⟩
      refine iteB (fun z => absurd (of_decide_eq_true z) (by decide)) fun _ => iteF ?_
      exact ⟨_, _, rfl, Same.refl _, rfl, .str _⟩
    | succ j =>
      have hxj : xs[j]? = some x := hxi
      obtain ⟨d, hd, hxd⟩ := hx.atV hxj
      have nd : (PyData.str t.name :: (t.midMv old new ρ ++ (t.kids.map (Row.mv old new ρ)).map Row.d))[j + 1]? = (t.midMv old new ρ ++ (t.kids.map (Row.mv old new ρ)).map Row.d)[j]? := rfl
      by_cases hj : j = 0 ∧ t.ref.isSome = true
      · obtain ⟨rfl, hrs⟩ := hj
        cases hf : t.ref with
        | none => rw [hf] at hrs; cases hrs
        | some f =>
          obtain ⟨m, hm⟩ := Row.mid_some hf
          rw [hm] at hd
          cases hd
          obtain rfl := hxd.key_inv
          have nm : (PyData.str t.name :: (t.midMv old new ρ ++ (t.kids.map (Row.mv old new ρ)).map Row.d))[0 + 1]? = some (kD (mvRef old new ρ f)) := by
            rw [nd]
            unfold Row.midMv
            rw [hf, hm]
            rfl
          refine iteB (fun _ => ?_) fun z => absurd z (by rw [decide_eq_true (by rfl)]; decide)
          refine ⟨_, rfl, a, _, 0, .str t.name, rfl, rfl, s'.seqT hs, atI_at (j := 0) rfl rfl, by decide, fun H2 p s2 np hp => ?_⟩
          refine ⟨p, _, rfl, .inr (SqT.of hp), rfl, rfl, _, rfl, ?_⟩
          refine iteB (fun _ => ?_) fun z => ?_
          · have hR2 := s2 _ _ (s' _ _ hR)
            obtain ⟨ty, h1, h2, _⟩ := ty_key (K := K) (H := H2) f
            refine ⟨_, rfl, _, _, ty, .type "int", _, rfl, .ty _, h1, h2, _, rfl, ?_⟩
            have fin : ∀ z : Key, mvRef old new ρ f = z → ∃ y d', [some (V.ref a), some (.int old), some (.int new), some (.ref R), some (.ref O), some (.int (0 + ((0 + 1 : Nat) : Int))), some (kV z)] =
                [some (V.ref a), some (.int old), some (.int new), some (.ref R), some (.ref O), some (.int (0 + ((0 + 1 : Nat) : Int))), some y] ∧ Same H' H2 ∧
                (PyData.str t.name :: (t.midMv old new ρ ++ (t.kids.map (Row.mv old new ρ)).map Row.d))[0 + 1]? = some d' ∧ Dp K H2 y d' := fun z hz =>
              ⟨kV z, kD z, rfl, s2, by rw [nm, hz], Dp.key z⟩
            have e := Ren.valV ρ f
            have g : DGet H2 R (kV f) _ := DGet.k (k := f) hR2
            rw [e] at g
            have gt : ((ρ.look f).map kV).getD (kV f) = kV (ρ.to f) := by
              unfold Ren.to
              cases ρ.look f <;> rfl
            cases f with
            | inl b =>
              refine iteT ⟨_, rfl, _, rfl, b, old, rfl, rfl, _, rfl, ?_⟩
              refine ite2 (c := decide (old ≤ b) = true) (fun h => ?_) fun h => ?_
              · exact ⟨_, rfl, _, rfl, _, _, rfl, rfl, _, rfl, _, _, rfl, rfl, fin (.inl (b + new - old)) (if_pos (of_decide_eq_true h))⟩
              · refine ⟨_, rfl, R, rfl, .inl ⟨_, .inl hR2⟩, _, rfl, _, rfl, _, g, ?_⟩
                have := fin (ρ.to (.inl b)) (if_neg fun z => h (decide_eq_true z))
                rw [← gt] at this
                exact this
            | inr b =>
              refine iteF ⟨_, rfl, R, rfl, .inl ⟨_, .inl hR2⟩, _, rfl, _, rfl, _, g, ?_⟩
              have := fin (ρ.to (.inr b)) rfl
              rw [← gt] at this
              exact this
          · have z' : inV (.str t.name) refNames = false := z
            rw [ref_name, hf] at z'
            cases z'
      · have ok : ItemOk d ∧ (rowD d = false → (t.midMv old new ρ ++ (t.kids.map (Row.mv old new ρ)).map Row.d)[j]? = some d) ∧
            (rowD d = true → ∃ c ∈ t.kids, d = c.d ∧ (t.midMv old new ρ ++ (t.kids.map (Row.mv old new ρ)).map Row.d)[j]? = some (c.mv old new ρ).d) := by
          by_cases hm : j < t.mid.length
          · rw [List.getElem?_append_left hm] at hd
            obtain ⟨i1, i2⟩ := item_mid t d (List.mem_of_getElem? hd)
            refine ⟨i1, fun _ => ?_, fun z => ?_⟩
            · rw [List.getElem?_append_left (by rw [Row.midMv_len]; exact hm)]
              exact Row.mid_at hd hj
            · rw [i2] at z; cases z
          · rw [List.getElem?_append_right (by omega), List.getElem?_map] at hd
            cases hc : t.kids[j - t.mid.length]? with
            | none => rw [hc] at hd; cases hd
            | some c =>
              rw [hc] at hd
              cases hd
              obtain ⟨i1, i2⟩ := item_row c
              refine ⟨i1, fun z => ?_, fun _ => ⟨c, List.mem_of_getElem? hc, rfl, ?_⟩⟩
              · rw [i2] at z; cases z
              · rw [List.getElem?_append_right (by rw [Row.midMv_len]; omega), Row.midMv_len, List.getElem?_map, List.getElem?_map, hc]
                rfl
        obtain ⟨iok, inot, irow⟩ := ok
        have s2 := Same.refl H'
        refine iteB (fun z => ?_) fun _ => iteF ?_
        · have z' := of_decide_eq_true z
          have j0 : j = 0 := by
            injection z' with z'
            omega
          refine ⟨_, rfl, a, _, 0, .str t.name, rfl, rfl, s'.seqT hs, atI_at (j := 0) rfl rfl, by decide, fun H2 p s2 np hp => ?_⟩
          refine ⟨p, _, rfl, .inr (SqT.of hp), rfl, rfl, _, rfl, ?_⟩
          refine iteB (fun z => ?_) fun _ => ?_
          · have z' : inV (.str t.name) refNames = true := z
            rw [ref_name] at z'
            exact absurd ⟨j0, z'⟩ hj
          refine ⟨_, rfl, _, _, rfl, rfl, _, rfl, ?_⟩
          refine iteB (fun _ => ?_) fun z => absurd z (by rw [decide_eq_true (by omega)]; decide)
          refine ⟨_, rfl, x, d, rfl, Dp.sm (s'.trans s2) _ _ hxd, iok, fun H3 s3 => ⟨_, rfl, ?_⟩⟩
          refine iteB (fun z => ?_) fun z => ⟨_, _, rfl, s2.trans s3, inot z, Dp.sm ((s'.trans s2).trans s3) _ _ hxd⟩
          obtain ⟨c, hc, rfl, hi'⟩ := irow z
          have := Row.ht_kid hc
          exact ⟨_, rfl, _, rfl, _, rfl, _, rfl, x, c, old, new, R, ρ, rfl, Dp.sm ((s'.trans s2).trans s3) _ _ hxd, by omega, s3 _ _ (s2 _ _ (s' _ _ hR)), fun H4 r s4 hr4 =>
            ⟨_, _, rfl, (s2.trans s3).trans s4, hi', hr4⟩⟩
        · refine ⟨_, rfl, _, _, rfl, rfl, _, rfl, ?_⟩
          refine iteB (fun _ => ?_) fun z => absurd z (by rw [decide_eq_true (by omega)]; decide)
          refine ⟨_, rfl, x, d, rfl, Dp.sm (s'.trans s2) _ _ hxd, iok, fun H3 s3 => ⟨_, rfl, ?_⟩⟩
          refine iteB (fun z => ?_) fun z => ⟨_, _, rfl, s2.trans s3, inot z, Dp.sm ((s'.trans s2).trans s3) _ _ hxd⟩
          obtain ⟨c, hc, rfl, hi'⟩ := irow z
          have := Row.ht_kid hc
          exact ⟨_, rfl, _, rfl, _, rfl, _, rfl, x, c, old, new, R, ρ, rfl, Dp.sm ((s'.trans s2).trans s3) _ _ hxd, by omega, s3 _ _ (s2 _ _ (s' _ _ hR)), fun H4 r s4 hr4 =>
            ⟨_, _, rfl, (s2.trans s3).trans s4, hi', hr4⟩⟩
  · rintro σ' H' ⟨y5, y6, rfl, s', acc, hO', hacc⟩
    refine ⟨_, rfl, O, acc, rfl, .inl (SqL.of hO'), fun H2 l s2 hl2 => q H2 _ (s'.trans s2) ?_⟩
    rw [Row.mv_items]
    refine .tup hl2 ?_
    rw [List.take_of_length_le] at hacc
    · exact Dp.smAll s2 _ _ hacc
    · rw [List.length_cons, List.length_cons, List.length_append, Row.midMv_len, List.length_map, List.length_map]; omega
theorem ok_lmoved (T : Tx K w mg) : ∀ n : Nat, FnOk P w K mg base CX0 (n + 1) T.a__law_moved T.d__law_moved ["tree", "old", "new", "names"] (spMoved K n)
  | 0 => by
    have no : ∀ vs H Q E, ¬ spMoved K 0 vs H Q E := fun vs H Q E h => by
      obtain ⟨v, t, old, new, R, ρ, _, _, hn, _⟩ := h
      have := t.ht_pos
      omega
    exact ⟨fun vs H Q E h => absurd h (no vs H Q E), fun A outer s H args us vs Q E _ _ _ _ h => absurd h (no vs H Q E)⟩
  | n + 1 => lmoved_step T (ok_lmoved T n)
end
end HA

/-! Dicts of counts. -/
namespace HA
open PySem PySem.Spec PyProof.Rows L2 HX
theorem ORel.mono {α : Type} {R R' : V → α → Prop} {a : Option V} {b : Option α} (f : ∀ v t, R v t → R' v t) (h : ORel R a b) : ORel R' a b := by
  cases a with
  | none => cases b with
    | none => trivial
    | some t => exact h.elim
  | some v => cases b with
    | none => exact h.elim
    | some t => exact f v t h
section
variable {α : Type} {kvs : List (Key × V)} {j : Nat} {k : Key} {v : V} {G B : Key → Option α}
/-- over the first j entries G, else B -/
def ov (kvs : List (Key × V)) (j : Nat) (G B : Key → Option α) : Key → Option α := fun k => if k ∈ (kvs.take j).map (·.1) then G k else B k
theorem ov_zero : ov kvs 0 G B = B := funext fun k => by unfold ov; rw [List.take_zero, if_neg (by simp)]
theorem key_fresh (nd : (kvs.map (·.1)).Nodup) (h : kvs[j]? = some (k, v)) : k ∉ (kvs.take j).map (·.1) := fun m => by
  obtain ⟨h1, h2⟩ := List.getElem?_eq_some_iff.mp h
  have e : kvs = kvs.take j ++ (k, v) :: kvs.drop (j + 1) := by rw [← h2, ← List.drop_eq_getElem_cons h1, List.take_append_drop]
  rw [e, List.map_append, List.nodup_append] at nd
  exact nd.2.2 k m k (List.mem_cons_self) rfl
theorem ov_at (nd : (kvs.map (·.1)).Nodup) (h : kvs[j]? = some (k, v)) : ov kvs j G B k = B k := if_neg (key_fresh nd h)
theorem ov_step (h : kvs[j]? = some (k, v)) (k' : Key) : ov kvs (j + 1) G B k' = if k' = k then G k else ov kvs j G B k' := by
  unfold ov
  rw [List.take_add_one, h, List.map_append]
  by_cases e : k' = k
  · subst e
    rw [if_pos rfl, if_pos (by simp)]
  · rw [if_neg e]
    by_cases m : k' ∈ (kvs.take j).map (·.1)
    · rw [if_pos m, if_pos (List.mem_append_left _ m)]
    · rw [if_neg m, if_neg fun z => by
        rcases List.mem_append.mp z with z | z
        · exact m z
        · simp at z
          exact e z]
theorem ov_end (h : ∀ k, k ∉ kvs.map (·.1) → B k = G k) : ov kvs kvs.length G B = G := funext fun k => by
  unfold ov
  rw [List.take_length]
  by_cases m : k ∈ kvs.map (·.1)
  · rw [if_pos m]
  · rw [if_neg m, h k m]
end
theorem ORel.none_of {α : Type} {R : V → α → Prop} {kvs : List (Key × V)} {f : Key → Option α} {k : Key} (h : ∀ k, ORel R (valV kvs k) (f k)) (n : k ∉ kvs.map (·.1)) : f k = none := by
  have a := h k
  have b : valV kvs k = none := by
    cases q : valV kvs k with
    | none => rfl
    | some v => exact absurd (valV_key.mp (by rw [q]; rfl)) n
  rw [b] at a
  cases q : f k with
  | none => rfl
  | some t => rw [q] at a; exact a.elim
theorem ORel.put {α : Type} {R : V → α → Prop} {tot : List (Key × V)} {F : Key → Option α} {k : Key} {v : V} {t : α} (h : ∀ k, ORel R (valV tot k) (F k)) (r : R v t) (k' : Key) : ORel R (valV (putK tot k v) k') (if k' = k then some t else F k') := by
  rw [valV_put]
  by_cases e : k' = k
  · rw [if_pos e, if_pos e]
    exact r
  · rw [if_neg e, if_neg e]
    exact h k'
section
variable {C D T : Addr} {H H' : Hp} {v : V} {t : T3} {kvs tot : List (Key × V)}
/-- the lock does not touch a Count -/
theorem CntAt.un {u : HO} (hu : ∀ c x fs, u ≠ .ins c x fs) (h : CntAt C (upd H D u) v t) : CntAt C H v t := by
  obtain ⟨a, dx, rfl, e⟩ := h
  by_cases z : a = D
  · subst z
    rw [upd_same] at e
    exact absurd (Option.some.inj e) (hu _ _ _)
  · rw [upd_ne z] at e
    exact ⟨a, dx, rfl, e⟩
theorem CntAt.un_dK (h : CntAt C (upd H D (.dK kvs)) v t) : CntAt C H v t := h.un fun _ _ _ z => by cases z
theorem CntAt.lk {od : Obj} {u w : HO} (hD : H D = some (.frz od w)) (h : CntAt C H v t) : CntAt C (upd H D u) v t := by
  obtain ⟨a, dx, rfl, e⟩ := h
  refine ⟨a, dx, rfl, ?_⟩
  rw [upd_ne (ne_of e hD (by intro z; cases z))]
  exact e
theorem CntAt.st {u : HO} (hT : H T = some (.dK tot)) (h : CntAt C H v t) : CntAt C (upd H T u) v t := by
  obtain ⟨a, dx, rfl, e⟩ := h
  refine ⟨a, dx, rfl, ?_⟩
  rw [upd_ne (ne_of e hT (by intro z; cases z))]
  exact e
theorem CntAt.kp (hT : H T = some (.dK tot)) (k : Kp [T] H H') (h : CntAt C H v t) : CntAt C H' v t := by
  obtain ⟨a, dx, rfl, e⟩ := h
  exact ⟨a, dx, rfl, k _ _ (lone (ne_of e hT (by intro z; cases z))) e⟩
end
/-- what stands at S are no tuples -/
def NT (S : List Addr) (H : Hp) : Prop := ∀ b ∈ S, ∀ o, H b = some o → (∀ xs, o ≠ .tup xs) ∧ ∀ ob xs, o ≠ .frz ob (.tup xs)
theorem NT.dict {D : Addr} {H : Hp} {kvs : List (Key × V)} (h : H D = some (.dK kvs)) : NT [D] H := fun b m o e => by
  rw [List.mem_singleton.mp m, h] at e
  cases e
  exact ⟨fun xs z => (by cases z), fun ob xs z => (by cases z)⟩
theorem Kp.seqN {K : PySem.W.Frag} {S : List Addr} {H H1 : Hp} {a : Addr} {xs : List V} (e : Kp S H H1) (l : NT S H) (h : SqT K H a xs) : SqT K H1 a xs := by
  rcases h with (h | ⟨o, h⟩) | h
  · exact .inl (.inl (e a _ (fun m => (l a m _ h).1 _ rfl) h))
  · exact .inl (.inr ⟨o, e a _ (fun m => (l a m _ h).2 _ _ rfl) h⟩)
  · exact .inr h
mutual
theorem dpN {K : PySem.W.Frag} {S : List Addr} {H H1 : Hp} (e : Kp S H H1) (l : NT S H) : ∀ (d : PyData) (v : V), tu d = true → Dp K H v d → Dp K H1 v d
  | .none, _, _, h => by cases h; exact .non
  | .bool b, _, _, h => by cases h; exact .bl b
  | .int i, _, _, h => by cases h; exact .int i
  | .str x, _, _, h => by cases h; exact .str x
  | .tuple ds, _, t, h => by
    cases h with
    | tup hs ha => exact .tup (e.seqN l hs) (dpNAll e l ds _ t ha)
  | .list _, _, t, _ => by cases t
  | .dict _, _, _, h => by cases h
theorem dpNAll {K : PySem.W.Frag} {S : List Addr} {H H1 : Hp} (e : Kp S H H1) (l : NT S H) : ∀ (ds : List PyData) (vs : List V), tuAll ds = true → DpAll K H vs ds → DpAll K H1 vs ds
  | [], _, _, h => by cases h; exact .nil
  | d :: ds, _, t, h => by
    have t' : (tu d && tuAll ds) = true := t
    rw [Bool.and_eq_true] at t'
    cases h with
    | cons h1 h2 => exact .cons (dpN e l d _ t'.1 h1) (dpNAll e l ds _ t'.2 h2)
end
theorem Kp.locked {D : Addr} {H : Hp} {u : HO} : Kp [D] (upd H D u) H := fun b o n h => by
  rw [upd_ne fun z => n (by rw [z]; exact .head _)] at h
  exact h
abbrev CD (C : Addr) (H : Hp) (D : Addr) (f : CF) : Prop := DF (CntAt C) H D f
theorem CD.sm {C : Addr} {H H' : Hp} {D : Addr} {f : CF} (e : Same H H') (h : CD C H D f) : CD C H' D f := DF.sm (fun v t h => h.sm e) e h
section
variable {P : Program} {w : World} {K : PySem.W.Frag} {mg : Str → Option Value} {base : Heap}
def spTwo (C : Addr) (op : CF → CF → CF) : Sp := fun vs H Q _ => ∃ (D1 D2 : Addr) (f g : CF) (U : List Key), vs = [.ref D1, .ref D2] ∧ CD C H D1 f ∧ CD C H D2 g ∧ Pos f ∧ Pos g ∧ Sup f U ∧ Sup g U ∧ U.length ≤ 5000 ∧
  ∀ H' D, Same H H' → H D = none → CD C H' D (op f g) → Q (.ref D) H'
theorem ok_added (T : Tx K w mg) {k : Nat} : FnOk P w K mg base CX0 (k + 4) T.a_added T.d_added ["first", "second"] (spTwo T.c_Count cadd) := by
  have G_Count_add := ok_Count_add (P := P) (base := base) T (k := k)
  refine T.F_added.ok sc_added (fun vs H Q E h => ?_) (fun cdv A outer s H vs Q E hr h => ?_)
  · obtain ⟨D1, D2, f, g, U, rfl, _⟩ := h
    rfl
  obtain ⟨D1, D2, f, g, U, rfl, ⟨k1, h1, nd1, o1⟩, ⟨k2, h2, nd2, o2⟩, pf, pg, sf, sg, lu, q⟩ := h
  have len1 := DF.few nd1 o1 sf
  have len2 := DF.few nd2 o2 sg
  refine ⟨_, (pss_cons (ps_set (i := 2) sc_added.nd rfl (Or.inl rfl) pe_dictN)
    (pss_cons (ps_lock (ps_for PassesOwn.never rfl (pi_keys (pv 0)) (pg_name (i := 3) sc_added.nd rfl (Or.inl rfl))
      (pss_one (ps_dput (hu_of hr) (pv 2) (pv 3) (pe_dget (hu_of hr) (pv 0) (pv 3) (fun _ _ => rfl)) rfl))))
    (pss_cons (ps_lock (ps_for PassesOwn.never rfl (pi_keys (pv 1)) (pg_name (i := 3) sc_added.nd rfl (Or.inl rfl))
      (pss_one (ps_if (pt_cmp (pc_din (hu_of hr) (pv 3) (pv 2)))
        (pss_one (ps_dput (hu_of hr) (pv 2) (pv 3) (pe_op (op_own T.sf_Count T.fi_Count_add T.fn_Count_add (G_Count_add) hr T.b_Count_add pass0) (pe_dget (hu_of hr) (pv 2) (pv 3) (fun _ _ => rfl)) (pe_dget (hu_of hr) (pv 1) (pv 3) (fun _ _ => rfl))) rfl))
        (pss_one (ps_dput (hu_of hr) (pv 2) (pv 3) (pe_dget (hu_of hr) (pv 1) (pv 3) (fun _ _ => rfl)) rfl))))))
    (pss_one (ps_ret (pv 2)))))), ?_⟩
  refine fun H1 A1 s1 nA hA => ?_
  have h11 := s1 _ _ h1
  have h21 := s1 _ _ h2
  have AD1 : A1 ≠ D1 := (ne_of_none h1 nA).symm
  have AD2 : A1 ≠ D2 := (ne_of_none h2 nA).symm
  refine forD rfl h11 (fun j σ' Hu => ∃ (y : Option V) (tot : List (Key × V)), σ' = [some (.ref D1), some (.ref D2), some (.ref A1), y] ∧ Kp [A1] H1 Hu ∧ Hu A1 = some (.dK tot) ∧ (tot.map (·.1)).Nodup ∧ tot.length ≤ j ∧ ∀ k, ORel (CntAt T.c_Count H1) (valV tot k) (ov k1 j f cnil k))
    ⟨none, [], rfl, Kp.refl _, hA, List.nodup_nil, Nat.le_refl _, fun k => by rw [ov_zero]; trivial⟩ ?_ ?_
  · rintro j k v σ' Hl od hk hl ⟨y, tot, rfl, kp, hT, nd, lt, o⟩
    rw [upd_ne AD1] at hT
    obtain ⟨t, ft, ct⟩ := DF.at nd1 o1 hk
    have ev := valV_mem nd1 hk
    refine ⟨_, rfl, _, rfl, D1, v, rfl, .inl ⟨k1, k, .inr ⟨od, hl⟩, rfl, ev.symm⟩, _, rfl, _, rfl, A1, _, rfl, DPut.k (k := k) hT (sz_lt (by have := (List.getElem?_eq_some_iff.mp hk).1; omega)), ?_⟩
    refine ⟨by rw [upd_ne AD1.symm]; exact hl, _, putK tot k v, rfl, ?_, ?_, nd_put v nd, ?_, fun k' => ?_⟩
    · rw [upd_comm AD1]
      exact kp.trans (Kp.wr (.head _))
    · rw [upd_comm AD1, upd_same]
    · have := length_putK tot k v
      omega
    · rw [ov_step hk, ft]
      exact ORel.put o (ct.sm s1) k'
  rintro σ' H2 ⟨y, tot, rfl, kp, hT, nd, lt, o⟩
  rw [ov_end (G := f) (B := cnil) fun k n => (ORel.none_of o1 n).symm] at o
  have h22 := kp _ _ (lone AD2.symm) h21
  refine forD rfl h22 (fun j σ' Hu => ∃ (y : Option V) (tot : List (Key × V)), σ' = [some (.ref D1), some (.ref D2), some (.ref A1), y] ∧ Kp [A1] H1 Hu ∧ Hu A1 = some (.dK tot) ∧ (tot.map (·.1)).Nodup ∧ tot.length ≤ k1.length + j ∧ ∀ k, ORel (CntAt T.c_Count Hu) (valV tot k) (ov k2 j (cadd f g) f k))
    ⟨y, tot, rfl, kp, hT, nd, by omega, fun k => by rw [ov_zero]; exact ORel.mono (fun v t h => CntAt.kp hA kp h) (o k)⟩ ?_ ?_
  · clear hT nd lt o kp y tot
    rintro j k v σ' Hl od hk hl ⟨y, tot, rfl, kp, hT, nd, lt, o⟩
    have hT' := hT
    rw [upd_ne AD2] at hT'
    obtain ⟨t, gt, ct⟩ := DF.at nd2 o2 hk
    have ev := valV_mem nd2 hk
    have jl := (List.getElem?_eq_some_iff.mp hk).1
    have ct1 : CntAt T.c_Count (upd Hl D2 (.dK k2)) v t := (ct.sm s1).kp hA kp
    have ct2 := ct1.un_dK
    have ok := o k
    rw [ov_at nd2 hk] at ok
    have eo : ∀ k', ov k2 (j + 1) (cadd f g) f k' = if k' = k then oadd (f k) (some t) else ov k2 j (cadd f g) f k' := fun k' => by
      rw [ov_step hk]
      show (if k' = k then oadd (f k) (g k) else _) = _
      rw [gt]
    have d0 : DGet Hl A1 (kV k) (valV tot k) := DGet.k (k := k) hT'
    refine ⟨_, rfl, _, rfl, A1, _, rfl, d0, _, rfl, ?_⟩
    cases ft : f k with
    | none =>
      rw [ft] at ok eo
      have en : valV tot k = none := by
        cases q : valV tot k with
        | none => rfl
        | some x => rw [q] at ok; exact ok.elim
      rw [en]
      refine iteF ?_
      refine ⟨_, rfl, _, rfl, D2, v, rfl, .inl ⟨k2, k, .inr ⟨od, hl⟩, rfl, ev.symm⟩, _, rfl, _, rfl, A1, _, rfl, DPut.k (k := k) hT' (sz_lt (by omega)), ?_⟩
      refine ⟨by rw [upd_ne AD2.symm]; exact hl, _, putK tot k v, rfl, ?_, ?_, nd_put v nd, ?_, fun k' => ?_⟩
      · rw [upd_comm AD2]
        exact kp.trans (Kp.wr (.head _))
      · rw [upd_comm AD2, upd_same]
      · have := length_putK tot k v
        omega
      · rw [upd_comm AD2, eo]
        exact ORel.put (fun k => ORel.mono (fun v t h => CntAt.st hT h) (o k)) (ct1.st hT) k'
    | some t1 =>
      rw [ft] at ok eo
      obtain ⟨v1, e1, c1⟩ : ∃ v1, valV tot k = some v1 ∧ CntAt T.c_Count (upd Hl D2 (.dK k2)) v1 t1 := by
        cases q : valV tot k with
        | none => rw [q] at ok; exact ok.elim
        | some x => rw [q] at ok; exact ⟨x, rfl, ok⟩
      rw [e1]
      have c1' := c1.un_dK
      obtain ⟨a1, x1, ea, ha⟩ := id c1'
      obtain ⟨a2, x2, eb, hb⟩ := id ct2
      have p1 := pf k t1 ft
      have p2 := pg k t gt
      unfold P3 at p1 p2
      refine iteT ?_
      refine ⟨_, rfl, _, rfl, A1, v1, rfl, by rw [← e1]; exact d0, _, rfl, _, rfl, D2, v, rfl, .inl ⟨k2, k, .inr ⟨od, hl⟩, rfl, ev.symm⟩, a1, a2, x1, x2, _, _, ea, eb, ha, hb, v1, v, t1, t, rfl, c1', ct2, by omega, by omega, by omega, by omega, fun H4 z s4 cz => ⟨z, rfl, ?_⟩⟩
      have hl4 := s4 _ _ hl
      have hT4 := s4 _ _ hT'
      refine ⟨_, rfl, _, rfl, A1, _, rfl, DPut.k (k := k) hT4 (sz_lt (by omega)), ?_⟩
      have su : Same (upd Hl D2 (.dK k2)) (upd H4 D2 (.dK k2)) := s4.un
      have hTu : upd H4 D2 (.dK k2) A1 = some (.dK tot) := by rw [upd_ne AD2]; exact hT4
      refine ⟨by rw [upd_ne AD2.symm]; exact hl4, _, putK tot k (.ref z), rfl, ?_, ?_, nd_put _ nd, ?_, fun k' => ?_⟩
      · rw [upd_comm AD2]
        exact (kp.trans (Kp.of su)).trans (Kp.wr (.head _))
      · rw [upd_comm AD2, upd_same]
      · have := length_putK tot k (V.ref z)
        omega
      · rw [upd_comm AD2, eo]
        exact ORel.put (fun k => ORel.mono (fun v t h => CntAt.st hTu (CntAt.sm su h)) (o k)) ((cz.lk hl4).st hTu) k'
  · clear hT nd lt o kp y tot
    rintro σ' H3 ⟨y, tot, rfl, kp, hT, nd, lt, o⟩
    rw [ov_end (G := cadd f g) (B := f) fun k n => by show f k = oadd (f k) (g k); rw [ORel.none_of o2 n, oadd_none]] at o
    exact ⟨_, rfl, q H3 A1 (s1.kp kp nA) nA ⟨tot, hT, nd, o⟩⟩
def spBoxes (K : PySem.W.Frag) (C : Addr) : Sp := fun vs H Q _ => ∃ (D1 : Addr) (v : V) (f : CF) (kd : Kd) (U : List Key), vs = [.ref D1, v] ∧ CD C H D1 f ∧ Dp K H v kd.d ∧ kd.ok ∧ Sup f U ∧ U.length ≤ 5000 ∧ ∀ H' D, Same H H' → H D = none → CD C H' D (cbox kd f) → Q (.ref D) H'
theorem tu_kd (k : Kd) : tu k.d = true := by cases k <;> rfl
theorem ok_boxed_counts (T : Tx K w mg) {k : Nat} : FnOk P w K mg base CX0 (k + 4) T.a_boxed_counts T.d_boxed_counts ["found", "kind"] (spBoxes K T.c_Count) := by
  have G_Count_boxed := ok_Count_boxed (P := P) (base := base) T (k := k)
  refine T.F_boxed_counts.ok sc_boxed_counts (fun vs H Q E h => ?_) (fun cdv A outer s H vs Q E hr h => ?_)
  · obtain ⟨D1, v, f, kd, U, rfl, _⟩ := h
    rfl
  obtain ⟨D1, v0, f, kd, U, rfl, ⟨k1, h1, nd1, o1⟩, hv, ok, sf, lu, q⟩ := h
  have len1 := DF.few nd1 o1 sf
  refine ⟨_, (pss_one (ps_ret (pe_lock (pe_dc (own := [("ref", 2)]) (g := gName 2) rfl sc_boxed_counts.nd (pi_keys (pv 0)) (blkOk_by (own := [("ref", 2)]) (N := N_boxed_counts) (sc := defScope s_boxed_counts) (by decide +kernel)) (fun _ _ _ _ _ => pg_name (i := 2) sc_boxed_counts.nd rfl (Or.inl rfl)) (fun _ _ _ _ _ => pts_nil) (fun _ _ _ _ _ => (pv 2)) (fun _ _ _ _ _ => (pe_meth (pe_dget (hu_of hr) (pv 0) (pv 2) (fun _ _ => rfl)) T.cl_Count T.me_Count_boxed (G_Count_boxed) hr T.b_Count_boxed .nil pass0 (pa_cons (pv 1) pa_nil))))))), ?_⟩
  refine dcD rfl h1 (fun L j Hu => Kp [L] H Hu ∧ ∃ tot : List (Key × V), Hu L = some (.dK tot) ∧ (tot.map (·.1)).Nodup ∧ tot.length ≤ j ∧ ∀ k, ORel (CntAt T.c_Count Hu) (valV tot k) (ov k1 j (cbox kd f) cnil k))
    (fun L nL _ => ⟨Kp.new nL, [], upd_same, List.nodup_nil, Nat.le_refl _, fun k => by rw [ov_zero]; trivial⟩) ?_ fun L Hu nL ⟨kp, tot, hT, nd, lt, o⟩ => ?_
  · rintro L j k v Hl od nL hk LD hl ⟨kp, tot, hT, nd, lt, o⟩
    have hT' := hT
    rw [upd_ne LD] at hT'
    have jl := (List.getElem?_eq_some_iff.mp hk).1
    obtain ⟨t, ft, ct⟩ := DF.at nd1 o1 hk
    have ev := valV_mem nd1 hk
    have sHu : Same H (upd Hl D1 (.dK k1)) := (Same.refl H).kp kp nL
    have ct1 := (ct.sm sHu).un_dK
    have hv1 : Dp K Hl v0 kd.d := dpN Kp.locked (NT.dict upd_same) _ _ (tu_kd kd) (Dp.sm sHu _ _ hv)
    obtain ⟨a, dx, ea, ha⟩ := id ct1
    refine ⟨rfl, _, rfl, _, rfl, _, rfl, D1, v, rfl, .inl ⟨k1, k, .inr ⟨od, hl⟩, rfl, ev.symm⟩, a, dx, _, ea, ha, (by rfl), _, rfl, v, v0, t, kd, (by rw [ea]; rfl), ct1, hv1, ok, fun H4 p s4 c4 => ?_⟩
    have hl4 := s4 _ _ hl
    have hT4 := s4 _ _ hT'
    have su : Same (upd Hl D1 (.dK k1)) (upd H4 D1 (.dK k1)) := s4.un
    have hTu : upd H4 D1 (.dK k1) L = some (.dK tot) := by rw [upd_ne LD]; exact hT4
    refine ⟨tot, k, rfl, hT4, sz_lt (by omega), by rw [upd_ne LD.symm]; exact hl4, ?_, putK tot k (.ref p), ?_, nd_put _ nd, ?_, fun k' => ?_⟩
    · rw [upd_comm LD]
      exact (kp.trans (Kp.of su)).trans (Kp.wr (.head _))
    · rw [upd_comm LD, upd_same]
    · have := length_putK tot k (V.ref p)
      omega
    · rw [upd_comm LD, ov_step hk]
      show ORel _ _ (if k' = k then (f k).map kd.bx else _)
      rw [ft]
      exact ORel.put (fun k => ORel.mono (fun v t h => CntAt.st hTu (CntAt.sm su h)) (o k)) ((c4.lk hl4).st hTu) k'
  · rw [ov_end (G := cbox kd f) (B := cnil) fun k n => by show none = (f k).map kd.bx; rw [ORel.none_of o1 n]; rfl] at o
    exact q Hu L ((Same.refl H).kp kp nL) nL ⟨tot, hT, nd, o⟩
end
end HA

/-! Counts of a derivation. -/
namespace HA
open PySem PySem.Spec PyProof.Rows L2 HX
theorem yt {A B : Prop} {x : Str} (a : A) : if decide (V.str x = V.str x) = true then A else B := by rw [if_pos (decide_eq_true rfl)]; exact a
theorem nt {A B : Prop} {x y : Str} (h : (x == y) = false) (b : B) : if decide (V.str x = V.str y) = true then A else B := by
  rw [if_neg]
  · exact b
  · intro z
    have := V.str.inj (of_decide_eq_true z)
    subst this
    rw [beq_self_eq_true] at h
    cases h
theorem ov_skip {α : Type} {kvs : List (Key × V)} {j : Nat} {k : Key} {v : V} {G B : Key → Option α} (nd : (kvs.map (·.1)).Nodup) (h : kvs[j]? = some (k, v)) (e : G k = B k) : ov kvs (j + 1) G B = ov kvs j G B := funext fun k' => by
  rw [ov_step h]
  by_cases z : k' = k
  · rw [if_pos z, z, ov_at nd h, e]
  · rw [if_neg z]
theorem cd_one {R : Hp → V → T3 → Prop} {H : Hp} {D : Addr} {r : Key} {v : V} (h : H D = some (.dK [(r, v)])) (c : R H v (1, 1, 0)) : DF R H D (cone r) := by
  refine ⟨_, h, List.nodup_cons.mpr ⟨by simp, List.nodup_nil⟩, fun k => ?_⟩
  by_cases e : r = k
  · subst e
    rw [valV_pos rfl]
    show ORel (R H) (some v) (if r = r then some (1, 1, 0) else none)
    rw [if_pos rfl]
    exact c
  · rw [valV_neg e, valV_nil]
    show ORel (R H) none (if k = r then some (1, 1, 0) else none)
    rw [if_neg fun z => e z.symm]
    trivial
section
variable {P : Program} {w : World} {K : PySem.W.Frag} {mg : Str → Option Value} {base : Heap}
def spWo (C : Addr) : Sp := fun vs H Q _ => ∃ (D1 : Addr) (l : Int) (f : CF) (U : List Key), vs = [.ref D1, .int l] ∧ CD C H D1 f ∧ Sup f U ∧ U.length ≤ 5000 ∧ ∀ H' D, Same H H' → H D = none → CD C H' D (cwo l f) → Q (.ref D) H'
theorem ok_without_ref (T : Tx K w mg) {k : Nat} : FnOk P w K mg base CX0 (k + 1) T.a_without T.d_without ["found", "ref"] (spWo T.c_Count) := by
  refine T.F_without.ok sc_without (fun vs H Q E h => ?_) (fun cdv A outer s H vs Q E hr h => ?_)
  · obtain ⟨D1, l, f, U, rfl, _⟩ := h
    rfl
  obtain ⟨D1, l, f, U, rfl, ⟨k1, h1, nd1, o1⟩, sf, lu, q⟩ := h
  have len1 := DF.few nd1 o1 sf
  refine ⟨_, (pss_one (ps_ret (pe_lock (pe_dc (own := [("other", 2)]) (g := gName 2) rfl sc_without.nd (pi_keys (pv 0)) (blkOk_by (own := [("other", 2)]) (N := N_without) (sc := defScope s_without) (by decide +kernel)) (fun _ _ _ _ _ => pg_name (i := 2) sc_without.nd rfl (Or.inl rfl)) (fun _ _ _ _ _ => pts_one (pt_cmpR op_ne (pv 2) (pv 1) (nomark _))) (fun _ _ _ _ _ => (pv 2)) (fun _ _ _ _ _ => (pe_dget (hu_of hr) (pv 0) (pv 2) (fun _ _ => rfl))))))), ?_⟩
  refine dcD rfl h1 (fun L j Hu => Kp [L] H Hu ∧ ∃ tot : List (Key × V), Hu L = some (.dK tot) ∧ (tot.map (·.1)).Nodup ∧ tot.length ≤ j ∧ ∀ k, ORel (CntAt T.c_Count Hu) (valV tot k) (ov k1 j (cwo l f) cnil k))
    (fun L nL _ => ⟨Kp.new nL, [], upd_same, List.nodup_nil, Nat.le_refl _, fun k => by rw [ov_zero]; trivial⟩) ?_ fun L Hu nL ⟨kp, tot, hT, nd, lt, o⟩ => ?_
  · rintro L j k v Hl od nL hk LD hl ⟨kp, tot, hT, nd, lt, o⟩
    have hT' := hT
    rw [upd_ne LD] at hT'
    have jl := (List.getElem?_eq_some_iff.mp hk).1
    obtain ⟨t, ft, ct⟩ := DF.at nd1 o1 hk
    have ev := valV_mem nd1 hk
    refine ⟨rfl, _, rfl, _, rfl, by cases k <;> rfl, _, rfl, iteB (fun c => ?_) (fun c => ?_)⟩
    · have ne : k ≠ .inl l := fun z => by
        subst z
        rw [show (!decide (kV (Sum.inl l) = V.int l)) = false by rw [show kV (Sum.inl l) = V.int l from rfl, decide_eq_true rfl]; rfl] at c
        cases c
      have sHu : Same H (upd Hl D1 (.dK k1)) := (Same.refl H).kp kp nL
      refine ⟨_, rfl, _, rfl, _, rfl, D1, v, rfl, .inl ⟨k1, k, .inr ⟨od, hl⟩, rfl, ev.symm⟩, tot, k, rfl, hT', sz_lt (by omega), by rw [upd_ne LD.symm]; exact hl, ?_, putK tot k v, ?_, nd_put v nd, ?_, fun k' => ?_⟩
      · rw [upd_comm LD]
        exact kp.trans (Kp.wr (.head _))
      · rw [upd_comm LD, upd_same]
      · have := length_putK tot k v
        omega
      · rw [upd_comm LD, ov_step hk]
        show ORel _ _ (if k' = k then (if k = .inl l then none else f k) else _)
        rw [if_neg ne, ft]
        exact ORel.put (fun k => ORel.mono (fun v t h => CntAt.st hT h) (o k)) ((ct.sm sHu).st hT) k'
    · have e : k = .inl l := by
        by_cases z : kV k = V.int l
        · cases k with
          | inl i => exact congrArg Sum.inl (V.int.inj z)
          | inr x => cases z
        · rw [decide_eq_false z] at c
          cases c
      refine ⟨hl, kp, tot, hT, nd, by omega, fun k' => ?_⟩
      rw [ov_skip nd1 hk (by show (if k = .inl l then none else f k) = none; rw [if_pos e])]
      exact o k'
  · rw [ov_end (G := cwo l f) (B := cnil) fun k n => by show none = (if k = .inl l then none else f k); rw [ORel.none_of o1 n]; split <;> rfl] at o
    exact q Hu L ((Same.refl H).kp kp nL) nL ⟨tot, hT, nd, o⟩
theorem oor_some {a b : T3} : oor (some a) (some b) = some (orT a b) := rfl
def spEither (C : Addr) : Sp := fun vs H Q E => ∃ D1 D2, vs = [V.ref D1, V.ref D2] ∧ D1 ≠ D2 ∧ spTwo C cor vs H Q E
theorem oor_swap (t : T3) : oor none (some t) = some (orT t z3) := by
  show some (min z3.1 t.1, max z3.2.1 t.2.1, max z3.2.2 t.2.2) = some (min t.1 z3.1, max t.2.1 z3.2.1, max t.2.2 z3.2.2)
  rw [Int.min_comm, Int.max_comm, Int.max_comm z3.2.2]
theorem oor_zero (t : T3) : oor (some t) none = some (orT t z3) := rfl
theorem orel_some {α : Type} {R : V → α → Prop} {a : Option V} {t : α} (h : ORel R a (some t)) : ∃ v, a = some v ∧ R v t := by
  cases a with
  | none => exact h.elim
  | some v => exact ⟨v, rfl, h⟩
theorem orel_none {α : Type} {R : V → α → Prop} {a : Option V} (h : ORel R a none) : a = none := by
  cases a with
  | none => rfl
  | some v => exact h.elim
theorem ok_either (T : Tx K w mg) {k : Nat} : FnOk P w K mg base CX0 (k + 4) T.a_either T.d_either ["first", "second"] (spEither T.c_Count) := by
  have G_Count_or := ok_Count_or (P := P) (base := base) T (k := k)
  have G_Count_init := ok_Count_init (P := P) (base := base) T (k := k + 1)
  refine T.F_either.ok sc_either (fun vs H Q E h => ?_) (fun cdv A outer s H vs Q E hr h => ?_)
  · obtain ⟨D1, D2, rfl, _⟩ := h
    rfl
  obtain ⟨D1, D2, rfl, ne12, D3, D4, f, g, U, e1, ⟨k1, h1, nd1, o1⟩, ⟨k2, h2, nd2, o2⟩, pf, pg, sf, sg, lu, q⟩ := h
  cases e1
  have len1 := DF.few nd1 o1 sf
  have len2 := DF.few nd2 o2 sg
  refine ⟨_, (pss_cons (ps_set (i := 2) sc_either.nd rfl (Or.inl rfl) pe_dictN)
    (pss_cons (ps_lock (ps_for PassesOwn.never rfl (pi_keys (pv 0)) (pg_name (i := 3) sc_either.nd rfl (Or.inl rfl))
      (pss_one (ps_dput (hu_of hr) (pv 2) (pv 3) (pe_op (op_own T.sf_Count T.fi_Count_or T.fn_Count_or (G_Count_or) hr T.b_Count_or pass0) (pe_dget (hu_of hr) (pv 0) (pv 3) (fun _ _ => rfl)) (pe_dget2 (hu_of hr) (pv 1) (pv 3) (pe_make T.mk_Count (G_Count_init) hr (by rfl) T.gc_Count T.b_Count_init .nil pass0 (pa_cons pe_int (pa_cons pe_int (pa_cons pe_int pa_nil)))) ⟨rfl, rfl, rfl, rfl⟩)) rfl))))
    (pss_cons (ps_lock (ps_for PassesOwn.never rfl (pi_keys (pv 1)) (pg_name (i := 3) sc_either.nd rfl (Or.inl rfl))
      (pss_one (ps_if (pt_cmp (pc_dnotin (hu_of hr) (pv 3) (pv 0)))
        (pss_one (ps_dput (hu_of hr) (pv 2) (pv 3) (pe_op (op_own T.sf_Count T.fi_Count_or T.fn_Count_or (G_Count_or) hr T.b_Count_or pass0) (pe_dget (hu_of hr) (pv 1) (pv 3) (fun _ _ => rfl)) (pe_make T.mk_Count (G_Count_init) hr (by rfl) T.gc_Count T.b_Count_init .nil pass0 (pa_cons pe_int (pa_cons pe_int (pa_cons pe_int pa_nil))))) rfl))
        pss_nil))))
    (pss_one (ps_ret (pv 2)))))), ?_⟩
  refine fun H1 A1 s1 nA hA => ?_
  have h11 := s1 _ _ h1
  have h21 := s1 _ _ h2
  have AD1 : A1 ≠ D1 := (ne_of_none h1 nA).symm
  have AD2 : A1 ≠ D2 := (ne_of_none h2 nA).symm
  refine forD rfl h11 (fun j σ' Hu => ∃ (y : Option V) (tot : List (Key × V)), σ' = [some (.ref D1), some (.ref D2), some (.ref A1), y] ∧ Kp [A1] H1 Hu ∧ Hu A1 = some (.dK tot) ∧ (tot.map (·.1)).Nodup ∧ tot.length ≤ j ∧ ∀ k, ORel (CntAt T.c_Count Hu) (valV tot k) (ov k1 j (cor f g) cnil k))
    ⟨none, [], rfl, Kp.refl _, hA, List.nodup_nil, Nat.le_refl _, fun k => by rw [ov_zero]; trivial⟩ ?_ ?_
  · rintro j k v σ' Hl od hk hl ⟨y, tot, rfl, kp, hT, nd, lt, o⟩
    have hT' := hT
    rw [upd_ne AD1] at hT'
    obtain ⟨t, ft, ct⟩ := DF.at nd1 o1 hk
    have ev := valV_mem nd1 hk
    have jl := (List.getElem?_eq_some_iff.mp hk).1
    have ct2 : CntAt T.c_Count Hl v t := (CntAt.kp hA kp (ct.sm s1)).un_dK
    have hD2 : Hl D2 = some (.dK k2) := by
      have := kp _ _ (lone AD2.symm) h21
      rwa [upd_ne ne12.symm] at this
    refine ⟨_, rfl, _, rfl, D1, v, rfl, .inl ⟨k1, k, .inr ⟨od, hl⟩, rfl, ev.symm⟩, _, rfl, D2, rfl, .inl ⟨_, .inl hD2⟩, _, rfl, fun z dz nz ndz ne => ⟨z, dz, _, _, _, rfl, upd_same, fun H3 x1 x2 => ⟨rfl, ?_⟩⟩⟩
    obtain ⟨s3, cz⟩ := made_count (t := z3) nz ndz ne x1 x2
    have key : ∃ (w : V) (t2 : T3), (valV k2 k).getD (.ref z) = w ∧ CntAt T.c_Count H3 w t2 ∧ 0 ≤ t2.2.1 ∧ 0 ≤ t2.2.2 ∧ oor (some t) (g k) = some (orT t t2) := by
      have og := o2 k
      cases gk : g k with
      | none =>
        rw [gk] at og
        rw [orel_none og]
        exact ⟨_, z3, rfl, cz, by decide, by decide, rfl⟩
      | some t2 =>
        rw [gk] at og
        obtain ⟨w, ew, cw⟩ := orel_some og
        rw [ew]
        have p2 := pg k t2 gk
        unfold P3 at p2
        refine ⟨w, t2, rfl, ((CntAt.kp hA kp (cw.sm s1)).un_dK).sm s3, by omega, by omega, rfl⟩
    obtain ⟨w, t2, ew, cw, t21, t22, eo⟩ := key
    have p1 := pf k t ft
    unfold P3 at p1
    have ct3 := ct2.sm s3
    obtain ⟨a1, x1', ea, ha⟩ := id ct3
    obtain ⟨a2, x2', eb, hb⟩ := id cw
    refine ⟨_, DGet.k (k := k) (s3 _ _ hD2), a1, a2, x1', x2', _, _, ea, ew.trans eb, ha, hb, v, w, t, t2, by rw [ew], ct3, cw, by omega, by omega, by omega, by omega, fun H4 p s4 cp => ⟨p, rfl, ?_⟩⟩
    have s34 := s3.trans s4
    have hl4 := s34 _ _ hl
    have hT4 := s34 _ _ hT'
    have su : Same (upd Hl D1 (.dK k1)) (upd H4 D1 (.dK k1)) := s34.un
    have hTu : upd H4 D1 (.dK k1) A1 = some (.dK tot) := by rw [upd_ne AD1]; exact hT4
    refine ⟨_, rfl, _, rfl, A1, _, rfl, DPut.k (k := k) hT4 (sz_lt (by omega)), ?_⟩
    refine ⟨by rw [upd_ne AD1.symm]; exact hl4, _, putK tot k (.ref p), rfl, ?_, ?_, nd_put _ nd, ?_, fun k' => ?_⟩
    · rw [upd_comm AD1]
      exact (kp.trans (Kp.of su)).trans (Kp.wr (.head _))
    · rw [upd_comm AD1, upd_same]
    · have := length_putK tot k (V.ref p)
      omega
    · rw [upd_comm AD1, ov_step hk]
      show ORel _ _ (if k' = k then oor (f k) (g k) else _)
      rw [ft, eo]
      exact ORel.put (fun k => ORel.mono (fun v t h => CntAt.st hTu (CntAt.sm su h)) (o k)) ((cp.lk hl4).st hTu) k'
  rintro σ' H2 ⟨y, tot, rfl, kp, hT, nd, lt, o⟩
  have h22 := kp _ _ (lone AD2.symm) h21
  refine forD rfl h22 (fun j σ' Hu => ∃ (y : Option V) (tot : List (Key × V)), σ' = [some (.ref D1), some (.ref D2), some (.ref A1), y] ∧ Kp [A1] H1 Hu ∧ Hu A1 = some (.dK tot) ∧ (tot.map (·.1)).Nodup ∧ tot.length ≤ k1.length + j ∧ ∀ k, ORel (CntAt T.c_Count Hu) (valV tot k) (ov k2 j (cor f g) (ov k1 k1.length (cor f g) cnil) k))
    ⟨y, tot, rfl, kp, hT, nd, by omega, fun k => by rw [ov_zero]; exact o k⟩ ?_ ?_
  · clear hT nd lt o kp y tot
    rintro j k v σ' Hl od hk hl ⟨y, tot, rfl, kp, hT, nd, lt, o⟩
    have hT' := hT
    rw [upd_ne AD2] at hT'
    obtain ⟨t, gt, ct⟩ := DF.at nd2 o2 hk
    have ev := valV_mem nd2 hk
    have jl := (List.getElem?_eq_some_iff.mp hk).1
    have ct2 : CntAt T.c_Count Hl v t := (CntAt.kp hA kp (ct.sm s1)).un_dK
    have hD1 : Hl D1 = some (.dK k1) := by
      have := kp _ _ (lone AD1.symm) h11
      rwa [upd_ne ne12] at this
    have d0 : DGet Hl D1 (kV k) (valV k1 k) := DGet.k (k := k) hD1
    refine ⟨_, rfl, _, rfl, D1, _, rfl, d0, _, rfl, ?_⟩
    cases fk : f k with
    | some t1 =>
      have of_ := o1 k
      rw [fk] at of_
      obtain ⟨v1, e1, _⟩ := orel_some of_
      rw [e1]
      refine iteF ⟨hl, _, tot, rfl, kp, hT, nd, by omega, fun k' => ?_⟩
      rw [ov_skip nd2 hk]
      · exact o k'
      · show cor f g k = if k ∈ (k1.take k1.length).map (·.1) then cor f g k else cnil k
        rw [List.take_length, if_pos (valV_key.mp (by rw [e1]; rfl))]
    | none =>
      have of_ := o1 k
      rw [fk] at of_
      rw [orel_none of_]
      refine iteT ?_
      refine ⟨_, rfl, _, rfl, D2, v, rfl, .inl ⟨k2, k, .inr ⟨od, hl⟩, rfl, ev.symm⟩, fun z dz nz ndz ne => ⟨z, dz, _, _, _, rfl, upd_same, fun H3 x1 x2 => ⟨rfl, ?_⟩⟩⟩
      obtain ⟨s3, cz⟩ := made_count (t := z3) nz ndz ne x1 x2
      have ct3 := ct2.sm s3
      obtain ⟨a1, x1', ea, ha⟩ := id ct3
      obtain ⟨a2, x2', eb, hb⟩ := id cz
      have p2 := pg k t gt
      unfold P3 at p2
      refine ⟨a1, a2, x1', x2', _, _, ea, eb, ha, hb, v, .ref z, t, z3, rfl, ct3, cz, by omega, by omega, by decide, by decide, fun H4 p s4 cp => ⟨p, rfl, ?_⟩⟩
      have s34 := s3.trans s4
      have hl4 := s34 _ _ hl
      have hT4 := s34 _ _ hT'
      have su : Same (upd Hl D2 (.dK k2)) (upd H4 D2 (.dK k2)) := s34.un
      have hTu : upd H4 D2 (.dK k2) A1 = some (.dK tot) := by rw [upd_ne AD2]; exact hT4
      refine ⟨_, rfl, _, rfl, A1, _, rfl, DPut.k (k := k) hT4 (sz_lt (by omega)), ?_⟩
      refine ⟨by rw [upd_ne AD2.symm]; exact hl4, _, putK tot k (.ref p), rfl, ?_, ?_, nd_put _ nd, ?_, fun k' => ?_⟩
      · rw [upd_comm AD2]
        exact (kp.trans (Kp.of su)).trans (Kp.wr (.head _))
      · rw [upd_comm AD2, upd_same]
      · have := length_putK tot k (V.ref p)
        omega
      · rw [upd_comm AD2, ov_step hk]
        show ORel _ _ (if k' = k then oor (f k) (g k) else _)
        rw [fk, gt, oor_swap]
        exact ORel.put (fun k => ORel.mono (fun v t h => CntAt.st hTu (CntAt.sm su h)) (o k)) ((cp.lk hl4).st hTu) k'
  · clear hT nd lt o kp y tot
    rintro σ' H3 ⟨y, tot, rfl, kp, hT, nd, lt, o⟩
    rw [ov_end (G := cor f g) (B := ov k1 k1.length (cor f g) cnil) fun k n => by
      show (if k ∈ (k1.take k1.length).map (·.1) then cor f g k else cnil k) = cor f g k
      rw [List.take_length]
      by_cases m : k ∈ k1.map (·.1)
      · rw [if_pos m]
      · rw [if_neg m]
        show none = oor (f k) (g k)
        rw [ORel.none_of o1 m, ORel.none_of o2 n]
        rfl] at o
    exact ⟨_, rfl, q H3 A1 (s1.kp kp nA) nA ⟨tot, hT, nd, o⟩⟩
end
end HA

/-! Counts of a derivation, by rows. -/
namespace HA
open PySem PySem.Spec PyProof.Rows L2 HX
section
variable {P : Program} {w : World} {K : PySem.W.Frag} {mg : Str → Option Value} {base : Heap}
theorem Row.len_refs {t c : Row} (h : c ∈ t.kids) : c.sz + 1 ≤ t.sz := by
  cases t <;> simp only [Row.kids, List.mem_cons, List.not_mem_nil, or_false] at h <;>
    first
    | exact h.elim
    | (subst h; simp only [Row.sz]; omega)
    | (rcases h with rfl | rfl <;> simp only [Row.sz] <;> omega)
theorem dc1 {H : Hp} {xs : List V} {d : PyData} {ds : List PyData} (h : DpAll K H xs (d :: ds)) : ∃ v vs, xs = v :: vs ∧ Dp K H v d ∧ DpAll K H vs ds := by
  cases h with
  | cons a b => exact ⟨_, _, rfl, a, b⟩
theorem dc0 {H : Hp} {xs : List V} (h : DpAll K H xs []) : xs = [] := by
  cases h
  rfl
def spCounts (K : PySem.W.Frag) (C : Addr) (n : Nat) : Sp := fun vs H Q _ => ∃ (v : V) (t : Row) (l : Int), vs = [v, .int l] ∧ Dp K H v t.d ∧ t.ht ≤ n ∧ t.ok ∧ t.sz ≤ 2000 ∧ ∀ H' D, Same H H' → H D = none → CD C H' D (t.cnt l) → Q (.ref D) H'
theorem counts_step (T : Tx K w mg) {n : Nat} (G_counts : FnOk P w K mg base CX0 (n + 5) T.a_counts T.d_counts ["derivation", "level"] (spCounts K T.c_Count n)) :
    FnOk P w K mg base CX0 (n + 6) T.a_counts T.d_counts ["derivation", "level"] (spCounts K T.c_Count (n + 1)) := by
  have G_Count_init := ok_Count_init (P := P) (base := base) T (k := n + 3)
  have G_added := ok_added (P := P) (base := base) T (k := n + 1)
  have G_either := ok_either (P := P) (base := base) T (k := n + 1)
  have G_boxed_counts := ok_boxed_counts (P := P) (base := base) T (k := n + 1)
  have G_without := ok_without_ref (P := P) (base := base) T (k := n + 4)
  refine T.F_counts.ok sc_counts (fun vs H Q E h => ?_) (fun cdv A outer s H vs Q E hr h => ?_)
  · obtain ⟨v, t, l, rfl, _⟩ := h
    rfl
  obtain ⟨v, t, l, rfl, ht, hn, hok, hz, q⟩ := h
  refine ⟨_, (pss_cons (ps_set (i := 2) sc_counts.nd rfl (Or.inl rfl) (pe_ix ix_tup (pv 0) pe_int (fun _ _ => rfl)))
    (pss_cons (ps_if (pt_cmpR op_eq (pv 2) pe_str (nomark _))
      (pss_one (ps_ret (pe_disp (pps_cons (pe_ix ix_tup (pv 0) pe_int (fun _ _ => rfl)) (pe_make T.mk_Count (G_Count_init) hr (by rfl) T.gc_Count T.b_Count_init .nil pass0 (pa_cons pe_int (pa_cons pe_int (pa_cons pe_int pa_nil)))) pps_nil) (by rfl) (by rfl) (fun z => by cases z) (by decide))))
      pss_nil)
    (pss_cons (ps_if (pt_cmpR op_eq (pv 2) pe_str (nomark _))
      (pss_one (ps_ret pe_dictN))
      pss_nil)
    (pss_cons (ps_if (pt_cmpR op_eq (pv 2) pe_str (nomark _))
      (pss_one (ps_ret (pe_call (G_without) hr (by rfl) T.g_without T.k_without T.b_without .nil pass0 (pa_cons (pe_call (G_counts) hr (by rfl) T.g_counts T.k_counts T.b_counts .nil pass0 (pa_cons (pe_ix ix_tup (pv 0) pe_int (fun _ _ => rfl)) (pa_cons (pe_op op_add (pv 1) pe_int) pa_nil))) (pa_cons (pv 1) pa_nil)))))
      pss_nil)
    (pss_cons (ps_if (pt_cmpR op_eq (pv 2) pe_str (nomark _))
      (pss_one (ps_ret (pe_call (G_counts) hr (by rfl) T.g_counts T.k_counts T.b_counts .nil pass0 (pa_cons (pe_ix ix_tup (pv 0) pe_int (fun _ _ => rfl)) (pa_cons (pv 1) pa_nil)))))
      pss_nil)
    (pss_cons (ps_if (pt_cmpR op_eq (pv 2) pe_str (nomark _))
      (pss_one (ps_ret (pe_call (G_either) hr (by rfl) T.g_either T.k_either T.b_either .nil pass0 (pa_cons (pe_call (G_counts) hr (by rfl) T.g_counts T.k_counts T.b_counts .nil pass0 (pa_cons (pe_ix ix_tup (pv 0) pe_int (fun _ _ => rfl)) (pa_cons (pv 1) pa_nil))) (pa_cons (pe_call (G_counts) hr (by rfl) T.g_counts T.k_counts T.b_counts .nil pass0 (pa_cons (pe_ix ix_tup (pv 0) pe_int (fun _ _ => rfl)) (pa_cons (pv 1) pa_nil))) pa_nil)))))
      pss_nil)
    (pss_cons (ps_set (i := 3) sc_counts.nd rfl (Or.inl rfl) (pe_call (G_without) hr (by rfl) T.g_without T.k_without T.b_without .nil pass0 (pa_cons (pe_call (G_counts) hr (by rfl) T.g_counts T.k_counts T.b_counts .nil pass0 (pa_cons (pe_ix ix_tup (pv 0) (pe_op op_sub (pe_callB call_len_seq (by rfl) T.z_len (by decide +kernel) (pa_cons (pv 0) pa_nil)) pe_int) (fun _ _ => rfl)) (pa_cons (pe_op op_add (pv 1) pe_int) pa_nil))) (pa_cons (pv 1) pa_nil))))
    (pss_cons (ps_if (pt_cmpR op_eq (pv 2) pe_str (nomark _))
      (pss_one (ps_ret (pe_call (G_added) hr (by rfl) T.g_added T.k_added T.b_added .nil pass0 (pa_cons (pe_call (G_boxed_counts) hr (by rfl) T.g_boxed_counts T.k_boxed_counts T.b_boxed_counts .nil pass0 (pa_cons (pe_call (G_counts) hr (by rfl) T.g_counts T.k_counts T.b_counts .nil pass0 (pa_cons (pe_ix ix_tup (pv 0) pe_int (fun _ _ => rfl)) (pa_cons (pv 1) pa_nil))) (pa_cons (pe_ix ix_tup (pv 0) pe_int (fun _ _ => rfl)) pa_nil))) (pa_cons (pv 3) pa_nil)))))
      pss_nil)
    (pss_cons (ps_set (i := 4) sc_counts.nd rfl (Or.inl rfl) (pe_disp (pps_cons (pe_ix ix_tup (pv 0) pe_int (fun _ _ => rfl)) (pe_make T.mk_Count (G_Count_init) hr (by rfl) T.gc_Count T.b_Count_init .nil pass0 (pa_cons pe_int (pa_cons pe_int (pa_cons pe_int pa_nil)))) pps_nil) (by rfl) (by rfl) (fun z => by cases z) (by decide)))
    (C8.pss_cut (ps_if (pt_cmpR op_eq (pv 2) pe_str (nomark _))
      (pss_one (ps_set (i := 4) sc_counts.nd rfl (Or.inl rfl) (pe_call (G_added) hr (by rfl) T.g_added T.k_added T.b_added .nil pass0 (pa_cons (pv 4) (pa_cons (pe_call (G_boxed_counts) hr (by rfl) T.g_boxed_counts T.k_boxed_counts T.b_boxed_counts .nil pass0 (pa_cons (pe_call (G_counts) hr (by rfl) T.g_counts T.k_counts T.b_counts .nil pass0 (pa_cons (pe_ix ix_tup (pv 0) pe_int (fun _ _ => rfl)) (pa_cons (pv 1) pa_nil))) (pa_cons (pe_ix ix_tup (pv 0) pe_int (fun _ _ => rfl)) pa_nil))) pa_nil)))))
      pss_nil)
    (pss_one (ps_ret (pe_call (G_added) hr (by rfl) T.g_added T.k_added T.b_added .nil pass0 (pa_cons (pv 4) (pa_cons (pv 3) pa_nil))))))))))))))), ?_⟩
  obtain ⟨a, xs, rfl, hs, hx⟩ := Row.at_ ht
  refine ⟨_, rfl, a, _, 0, .str t.name, rfl, rfl, hs, atI_at (j := 0) rfl rfl, ?_⟩
  have single : ∀ {r : Key} {H0 : Hp} {D z dz : Addr} {H1 : Hp}, H0 D = none → upd H0 D (.dK []) z = none → upd H0 D (.dK []) dz = none → dz ≠ z → H1 z = some (.ins T.c_Count dz (cf (1, 1, 0))) → (∀ b, b ≠ z → H1 b = upd (upd (upd H0 D (.dK [])) dz (.own z)) z (.ins T.c_Count dz []) b) →
      H1 D = some (.dK []) ∧ Same H0 (upd H1 D (.dK [(r, .ref z)])) ∧ CD T.c_Count (upd H1 D (.dK [(r, .ref z)])) D (cone r) := fun {r H0 D z dz H1} nD nz ndz ne x1 x2 => by
    obtain ⟨s1, cz⟩ := made_count (t := (1, 1, 0)) nz ndz ne x1 x2
    have hD := s1 _ _ upd_same
    exact ⟨hD, ((Same.new nD).trans s1).mut nD, cd_one upd_same (cz.st hD)⟩
  cases t with
  | own r =>
    obtain ⟨v0, xs, rfl, g1, hx⟩ := dc1 hx
    obtain rfl := dc0 hx
    obtain rfl := g1.key_inv
    refine ⟨_, rfl, rfl, _, rfl, yt ?_⟩
    refine fun D nD => ⟨_, rfl, a, _, 1, kV r, rfl, rfl, (Same.new nD).seqT hs, atI_at (j := 1) rfl rfl, fun z dz nz ndz ne => ⟨z, dz, _, _, _, rfl, upd_same, fun H1 x1 x2 => ⟨rfl, ?_⟩⟩⟩
    obtain ⟨hD, s1, c1⟩ := single (r := r) nD nz ndz ne x1 x2
    exact ⟨hD, [(r, .ref z)], rfl, (by show 1 ≤ 15; decide), q _ D s1 nD c1⟩
  | cite x =>
    refine ⟨_, rfl, rfl, _, rfl, nt (x := "cite") (y := "own") (by decide +kernel) ?_⟩
    refine ⟨_, rfl, rfl, _, rfl, yt ?_⟩
    exact fun H1 D s1 nD hD => q H1 D s1 nD ⟨[], hD, List.nodup_nil, fun k => trivial⟩
  | take b =>
    obtain ⟨vb, xs, rfl, g1, hx⟩ := dc1 hx
    obtain rfl := dc0 hx
    have lt := Row.ht_kid (t := .take b) (c := b) (.head _)
    have lz := Row.len_refs (t := .take b) (c := b) (.head _)
    have rl := Row.refs_len b
    refine ⟨_, rfl, rfl, _, rfl, nt (x := "take") (y := "own") (by decide +kernel) ?_⟩
    refine ⟨_, rfl, rfl, _, rfl, nt (x := "take") (y := "cite") (by decide +kernel) ?_⟩
    refine ⟨_, rfl, rfl, _, rfl, yt ?_⟩
    refine ⟨_, rfl, a, _, 1, vb, rfl, rfl, hs, atI_at (j := 1) rfl rfl, _, rfl, _, _, rfl, rfl, vb, b, l + 1, rfl, g1, by omega, hok, by omega, fun H1 D1 s1 n1 c1 => ⟨_, rfl, D1, l, _, b.refs, rfl, c1, Row.sup b (l + 1), by omega, fun H2 D2 s2 n2 c2 => q H2 D2 (s1.trans s2) (s1.free n2) c2⟩⟩
  | make x i b =>
    obtain ⟨v0, xs, rfl, g0, hx⟩ := dc1 hx
    obtain ⟨v1, xs, rfl, g1, hx⟩ := dc1 hx
    obtain ⟨vb, xs, rfl, g2, hx⟩ := dc1 hx
    obtain rfl := dc0 hx
    have lt := Row.ht_kid (t := .make x i b) (c := b) (.head _)
    have lz := Row.len_refs (t := .make x i b) (c := b) (.head _)
    refine ⟨_, rfl, rfl, _, rfl, nt (x := "make") (y := "own") (by decide +kernel) ?_⟩
    refine ⟨_, rfl, rfl, _, rfl, nt (x := "make") (y := "cite") (by decide +kernel) ?_⟩
    refine ⟨_, rfl, rfl, _, rfl, nt (x := "make") (y := "take") (by decide +kernel) ?_⟩
    refine ⟨_, rfl, rfl, _, rfl, yt ?_⟩
    exact ⟨_, rfl, a, _, 3, vb, rfl, rfl, hs, atI_at (j := 3) rfl rfl, _, rfl, vb, b, l, rfl, g2, by omega, hok, by omega, fun H1 D1 s1 n1 c1 => q H1 D1 s1 n1 c1⟩
  | offer b c =>
    obtain ⟨vb, xs, rfl, g1, hx⟩ := dc1 hx
    obtain ⟨vc, xs, rfl, g2, hx⟩ := dc1 hx
    obtain rfl := dc0 hx
    have lb := Row.ht_kid (t := .offer b c) (c := b) (.head _)
    have lc := Row.ht_kid (t := .offer b c) (c := c) (.tail _ (.head _))
    have zb := Row.len_refs (t := .offer b c) (c := b) (.head _)
    have zc := Row.len_refs (t := .offer b c) (c := c) (.tail _ (.head _))
    have rb := Row.refs_len b
    have rc := Row.refs_len c
    refine ⟨_, rfl, rfl, _, rfl, nt (x := "offer") (y := "own") (by decide +kernel) ?_⟩
    refine ⟨_, rfl, rfl, _, rfl, nt (x := "offer") (y := "cite") (by decide +kernel) ?_⟩
    refine ⟨_, rfl, rfl, _, rfl, nt (x := "offer") (y := "take") (by decide +kernel) ?_⟩
    refine ⟨_, rfl, rfl, _, rfl, nt (x := "offer") (y := "make") (by decide +kernel) ?_⟩
    refine ⟨_, rfl, rfl, _, rfl, yt ?_⟩
    refine ⟨_, rfl, a, _, 1, vb, rfl, rfl, hs, atI_at (j := 1) rfl rfl, _, rfl, vb, b, l, rfl, g1, by omega, hok.1, by omega, fun H1 D1 s1 n1 c1 => ?_⟩
    refine ⟨_, rfl, a, _, 2, vc, rfl, rfl, s1.seqT hs, atI_at (j := 2) rfl rfl, _, rfl, vc, c, l, rfl, Dp.sm s1 _ _ g2, by omega, hok.2, by omega, fun H2 D2 s2 n2 c2 => ?_⟩
    have ne12 : D1 ≠ D2 := by
      obtain ⟨_, e, _⟩ := c1
      exact ne_of_none e n2
    exact ⟨D1, D2, rfl, ne12, D1, D2, _, _, b.refs ++ c.refs, rfl, c1.sm s2, c2, Row.pos l hok.1, Row.pos l hok.2, (Row.sup b l).mono fun _ m => List.mem_append_left _ m, (Row.sup c l).mono fun _ m => List.mem_append_right _ m, by rw [List.length_append]; omega, fun H3 D3 s3 n3 c3 => q H3 D3 (s1.trans (s2.trans s3)) (s1.free (s2.free n3)) c3⟩
  | cut kd sn c b =>
    obtain ⟨vk, xs, rfl, g0, hx⟩ := dc1 hx
    obtain ⟨vs, xs, rfl, g1, hx⟩ := dc1 hx
    obtain ⟨vc, xs, rfl, gc, hx⟩ := dc1 hx
    obtain ⟨vb, xs, rfl, gb, hx⟩ := dc1 hx
    obtain rfl := dc0 hx
    have lb := Row.ht_kid (t := .cut kd sn c b) (c := b) (.tail _ (.head _))
    have lc := Row.ht_kid (t := .cut kd sn c b) (c := c) (.head _)
    have zb := Row.len_refs (t := .cut kd sn c b) (c := b) (.tail _ (.head _))
    have zc := Row.len_refs (t := .cut kd sn c b) (c := c) (.head _)
    have rb := Row.refs_len b
    have rc := Row.refs_len c
    refine ⟨_, rfl, rfl, _, rfl, nt (x := "cut") (y := "own") (by decide +kernel) ?_⟩
    refine ⟨_, rfl, rfl, _, rfl, nt (x := "cut") (y := "cite") (by decide +kernel) ?_⟩
    refine ⟨_, rfl, rfl, _, rfl, nt (x := "cut") (y := "take") (by decide +kernel) ?_⟩
    refine ⟨_, rfl, rfl, _, rfl, nt (x := "cut") (y := "make") (by decide +kernel) ?_⟩
    refine ⟨_, rfl, rfl, _, rfl, nt (x := "cut") (y := "offer") (by decide +kernel) ?_⟩
    refine ⟨_, rfl, _, rfl, a, _, rfl, .inr hs, _, _, rfl, rfl, a, _, 4, vb, rfl, rfl, hs, atI_at (j := 4) rfl rfl, _, rfl, _, _, rfl, rfl, vb, b, l + 1, rfl, gb, by omega, hok.2.2, by omega, fun H1 D1 s1 n1 c1 => ⟨_, rfl, D1, l, _, b.refs, rfl, c1, Row.sup b (l + 1), by omega, fun H2 B s2 n2 c2 => ?_⟩⟩
    have s12 := s1.trans s2
    have nB := s1.free n2
    refine ⟨_, rfl, rfl, _, rfl, yt ?_⟩
    refine ⟨_, rfl, a, _, 3, vc, rfl, rfl, s12.seqT hs, atI_at (j := 3) rfl rfl, _, rfl, vc, c, l, rfl, Dp.sm s12 _ _ gc, by omega, hok.2.1, by omega, fun H3 D3 s3 n3 c3 => ?_⟩
    have s13 := s12.trans s3
    refine ⟨_, rfl, a, _, 1, vk, rfl, rfl, s13.seqT hs, atI_at (j := 1) rfl rfl, D3, vk, _, kd, c.refs, rfl, c3, Dp.sm s13 _ _ g0, hok.1, Row.sup c l, by omega, fun H4 D4 s4 n4 c4 => ?_⟩
    exact ⟨_, rfl, D4, B, _, _, c.refs ++ b.refs, rfl, c4, c2.sm (s3.trans s4), (Row.pos l hok.2.1).box hok.1, (Row.pos (l + 1) hok.2.2).wo, (Row.sup c l).box.mono fun _ m => List.mem_append_left _ m, (Row.sup b (l + 1)).wo.mono fun _ m => List.mem_append_right _ m, by rw [List.length_append]; omega, fun H5 D5 s5 n5 c5 => q H5 D5 (s13.trans (s4.trans s5)) (s13.free (s4.free n5)) c5⟩
  | pick r sd b =>
    obtain ⟨vr, xs, rfl, gr, hx⟩ := dc1 hx
    obtain ⟨vs, xs, rfl, g1, hx⟩ := dc1 hx
    obtain ⟨vb, xs, rfl, gb, hx⟩ := dc1 hx
    obtain rfl := dc0 hx
    obtain rfl := gr.key_inv
    have lb := Row.ht_kid (t := .pick r sd b) (c := b) (.head _)
    have zb := Row.len_refs (t := .pick r sd b) (c := b) (.head _)
    have rb := Row.refs_len b
    refine ⟨_, rfl, rfl, _, rfl, nt (x := "pick") (y := "own") (by decide +kernel) ?_⟩
    refine ⟨_, rfl, rfl, _, rfl, nt (x := "pick") (y := "cite") (by decide +kernel) ?_⟩
    refine ⟨_, rfl, rfl, _, rfl, nt (x := "pick") (y := "take") (by decide +kernel) ?_⟩
    refine ⟨_, rfl, rfl, _, rfl, nt (x := "pick") (y := "make") (by decide +kernel) ?_⟩
    refine ⟨_, rfl, rfl, _, rfl, nt (x := "pick") (y := "offer") (by decide +kernel) ?_⟩
    refine ⟨_, rfl, _, rfl, a, _, rfl, .inr hs, _, _, rfl, rfl, a, _, 3, vb, rfl, rfl, hs, atI_at (j := 3) rfl rfl, _, rfl, _, _, rfl, rfl, vb, b, l + 1, rfl, gb, by omega, hok, by omega, fun H1 D1 s1 n1 c1 => ⟨_, rfl, D1, l, _, b.refs, rfl, c1, Row.sup b (l + 1), by omega, fun H2 B s2 n2 c2 => ?_⟩⟩
    have s12 := s1.trans s2
    have nB := s1.free n2
    refine ⟨_, rfl, rfl, _, rfl, nt (x := "pick") (y := "cut") (by decide +kernel) ?_⟩
    refine fun D nD => ⟨_, rfl, a, _, 1, kV r, rfl, rfl, (Same.new nD).seqT (s12.seqT hs), atI_at (j := 1) rfl rfl, fun z dz nz ndz ne => ⟨z, dz, _, _, _, rfl, upd_same, fun H3 x1 x2 => ⟨rfl, ?_⟩⟩⟩
    obtain ⟨hD, s3, c3⟩ := single (r := r) nD nz ndz ne x1 x2
    refine ⟨hD, [(r, .ref z)], rfl, (by show 1 ≤ 15; decide), ?_⟩
    have s13 := s12.trans s3
    refine ⟨fun σ' H' => ∃ (F : Addr), σ' = [some (.ref a), some (.int l), some (.str "pick"), some (.ref B), some (.ref F)] ∧ Same H2 H' ∧ H2 F = none ∧ CD T.c_Count H' F (cone r), ?_, ?_⟩
    · exact ⟨_, rfl, rfl, _, rfl, nt (x := "pick") (y := "pay") (by decide +kernel) ⟨D, rfl, s3, nD, c3⟩⟩
    rintro σ' H4 ⟨F, rfl, s4, nF, c4⟩
    exact ⟨_, rfl, _, rfl, F, B, _, _, r :: b.refs, rfl, c4, c2.sm s4, Pos.one r, (Row.pos (t := b) (l + 1) hok).wo, Sup.one (.head _), (Row.sup b (l + 1)).wo.mono fun _ m => .tail _ m, by rw [List.length_cons]; omega, fun H5 D5 s5 n5 c5 => q H5 D5 (s12.trans (s4.trans s5)) (s12.free (s4.free n5)) c5⟩
  | opn r x i b =>
    obtain ⟨vr, xs, rfl, gr, hx⟩ := dc1 hx
    obtain ⟨vx, xs, rfl, g1, hx⟩ := dc1 hx
    obtain ⟨vi, xs, rfl, g2, hx⟩ := dc1 hx
    obtain ⟨vb, xs, rfl, gb, hx⟩ := dc1 hx
    obtain rfl := dc0 hx
    obtain rfl := gr.key_inv
    have lb := Row.ht_kid (t := .opn r x i b) (c := b) (.head _)
    have zb := Row.len_refs (t := .opn r x i b) (c := b) (.head _)
    have rb := Row.refs_len b
    refine ⟨_, rfl, rfl, _, rfl, nt (x := "open") (y := "own") (by decide +kernel) ?_⟩
    refine ⟨_, rfl, rfl, _, rfl, nt (x := "open") (y := "cite") (by decide +kernel) ?_⟩
    refine ⟨_, rfl, rfl, _, rfl, nt (x := "open") (y := "take") (by decide +kernel) ?_⟩
    refine ⟨_, rfl, rfl, _, rfl, nt (x := "open") (y := "make") (by decide +kernel) ?_⟩
    refine ⟨_, rfl, rfl, _, rfl, nt (x := "open") (y := "offer") (by decide +kernel) ?_⟩
    refine ⟨_, rfl, _, rfl, a, _, rfl, .inr hs, _, _, rfl, rfl, a, _, 4, vb, rfl, rfl, hs, atI_at (j := 4) rfl rfl, _, rfl, _, _, rfl, rfl, vb, b, l + 1, rfl, gb, by omega, hok, by omega, fun H1 D1 s1 n1 c1 => ⟨_, rfl, D1, l, _, b.refs, rfl, c1, Row.sup b (l + 1), by omega, fun H2 B s2 n2 c2 => ?_⟩⟩
    have s12 := s1.trans s2
    have nB := s1.free n2
    refine ⟨_, rfl, rfl, _, rfl, nt (x := "open") (y := "cut") (by decide +kernel) ?_⟩
    refine fun D nD => ⟨_, rfl, a, _, 1, kV r, rfl, rfl, (Same.new nD).seqT (s12.seqT hs), atI_at (j := 1) rfl rfl, fun z dz nz ndz ne => ⟨z, dz, _, _, _, rfl, upd_same, fun H3 x1 x2 => ⟨rfl, ?_⟩⟩⟩
    obtain ⟨hD, s3, c3⟩ := single (r := r) nD nz ndz ne x1 x2
    refine ⟨hD, [(r, .ref z)], rfl, (by show 1 ≤ 15; decide), ?_⟩
    have s13 := s12.trans s3
    refine ⟨fun σ' H' => ∃ (F : Addr), σ' = [some (.ref a), some (.int l), some (.str "open"), some (.ref B), some (.ref F)] ∧ Same H2 H' ∧ H2 F = none ∧ CD T.c_Count H' F (cone r), ?_, ?_⟩
    · exact ⟨_, rfl, rfl, _, rfl, nt (x := "open") (y := "pay") (by decide +kernel) ⟨D, rfl, s3, nD, c3⟩⟩
    rintro σ' H4 ⟨F, rfl, s4, nF, c4⟩
    exact ⟨_, rfl, _, rfl, F, B, _, _, r :: b.refs, rfl, c4, c2.sm s4, Pos.one r, (Row.pos (t := b) (l + 1) hok).wo, Sup.one (.head _), (Row.sup b (l + 1)).wo.mono fun _ m => .tail _ m, by rw [List.length_cons]; omega, fun H5 D5 s5 n5 c5 => q H5 D5 (s12.trans (s4.trans s5)) (s12.free (s4.free n5)) c5⟩
  | pay r kd c b =>
    obtain ⟨vr, xs, rfl, gr, hx⟩ := dc1 hx
    obtain ⟨vk, xs, rfl, gk, hx⟩ := dc1 hx
    obtain ⟨vc, xs, rfl, gc, hx⟩ := dc1 hx
    obtain ⟨vb, xs, rfl, gb, hx⟩ := dc1 hx
    obtain rfl := dc0 hx
    obtain rfl := gr.key_inv
    have lb := Row.ht_kid (t := .pay r kd c b) (c := b) (.tail _ (.head _))
    have lc := Row.ht_kid (t := .pay r kd c b) (c := c) (.head _)
    have zb := Row.len_refs (t := .pay r kd c b) (c := b) (.tail _ (.head _))
    have zc := Row.len_refs (t := .pay r kd c b) (c := c) (.head _)
    have rb := Row.refs_len b
    have rc := Row.refs_len c
    refine ⟨_, rfl, rfl, _, rfl, nt (x := "pay") (y := "own") (by decide +kernel) ?_⟩
    refine ⟨_, rfl, rfl, _, rfl, nt (x := "pay") (y := "cite") (by decide +kernel) ?_⟩
    refine ⟨_, rfl, rfl, _, rfl, nt (x := "pay") (y := "take") (by decide +kernel) ?_⟩
    refine ⟨_, rfl, rfl, _, rfl, nt (x := "pay") (y := "make") (by decide +kernel) ?_⟩
    refine ⟨_, rfl, rfl, _, rfl, nt (x := "pay") (y := "offer") (by decide +kernel) ?_⟩
    refine ⟨_, rfl, _, rfl, a, _, rfl, .inr hs, _, _, rfl, rfl, a, _, 4, vb, rfl, rfl, hs, atI_at (j := 4) rfl rfl, _, rfl, _, _, rfl, rfl, vb, b, l + 1, rfl, gb, by omega, hok.2.2, by omega, fun H1 D1 s1 n1 c1 => ⟨_, rfl, D1, l, _, b.refs, rfl, c1, Row.sup b (l + 1), by omega, fun H2 B s2 n2 c2 => ?_⟩⟩
    have s12 := s1.trans s2
    have nB := s1.free n2
    refine ⟨_, rfl, rfl, _, rfl, nt (x := "pay") (y := "cut") (by decide +kernel) ?_⟩
    refine fun D nD => ⟨_, rfl, a, _, 1, kV r, rfl, rfl, (Same.new nD).seqT (s12.seqT hs), atI_at (j := 1) rfl rfl, fun z dz nz ndz ne => ⟨z, dz, _, _, _, rfl, upd_same, fun H3 x1 x2 => ⟨rfl, ?_⟩⟩⟩
    obtain ⟨hD, s3, c3⟩ := single (r := r) nD nz ndz ne x1 x2
    refine ⟨hD, [(r, .ref z)], rfl, (by show 1 ≤ 15; decide), ?_⟩
    have s13 := s12.trans s3
    refine ⟨fun σ' H' => ∃ (F : Addr), σ' = [some (.ref a), some (.int l), some (.str "pay"), some (.ref B), some (.ref F)] ∧ Same H2 H' ∧ H2 F = none ∧ CD T.c_Count H' F (cadd (cone r) (cbox kd (c.cnt l))), ?_, ?_⟩
    · refine ⟨_, rfl, rfl, _, rfl, yt ?_⟩
      refine ⟨_, rfl, _, rfl, a, _, 3, vc, rfl, rfl, s13.seqT hs, atI_at (j := 3) rfl rfl, _, rfl, vc, c, l, rfl, Dp.sm s13 _ _ gc, by omega, hok.2.1, by omega, fun H4 D4 s4 n4 c4 => ?_⟩
      have s14 := s13.trans s4
      refine ⟨_, rfl, a, _, 2, vk, rfl, rfl, s14.seqT hs, atI_at (j := 2) rfl rfl, D4, vk, _, kd, c.refs, rfl, c4, Dp.sm s14 _ _ gk, hok.1, Row.sup c l, by omega, fun H5 D5 s5 n5 c5 => ?_⟩
      refine ⟨D, D5, _, _, r :: c.refs, rfl, c3.sm (s4.trans s5), c5, Pos.one r, (Row.pos l hok.2.1).box hok.1, Sup.one (.head _), (Row.sup c l).box.mono fun _ m => .tail _ m, by rw [List.length_cons]; omega, fun H6 D6 s6 n6 c6 => ⟨D6, rfl, s3.trans (s4.trans (s5.trans s6)), s3.free (s4.free (s5.free n6)), c6⟩⟩
    rintro σ' H4 ⟨F, rfl, s4, nF, c4⟩
    exact ⟨_, rfl, _, rfl, F, B, _, _, (r :: c.refs) ++ b.refs, rfl, c4, c2.sm s4, (Pos.one r).add ((Row.pos l hok.2.1).box hok.1), (Row.pos (l + 1) hok.2.2).wo, ((Sup.one (.head _)).add ((Row.sup c l).box.mono fun _ m => .tail _ m)).mono fun _ m => List.mem_append_left _ m, (Row.sup b (l + 1)).wo.mono fun _ m => List.mem_append_right _ m, by rw [List.length_append, List.length_cons]; omega, fun H5 D5 s5 n5 c5 => q H5 D5 (s12.trans (s4.trans s5)) (s12.free (s4.free n5)) c5⟩
theorem ok_counts (T : Tx K w mg) : ∀ n : Nat, FnOk P w K mg base CX0 (n + 5) T.a_counts T.d_counts ["derivation", "level"] (spCounts K T.c_Count n)
  | 0 => by
    have no : ∀ vs H Q E, ¬ spCounts K T.c_Count 0 vs H Q E := fun vs H Q E h => by
      obtain ⟨v, t, l, _, _, hn, _⟩ := h
      have := t.ht_pos
      omega
    exact ⟨fun vs H Q E h => absurd h (no vs H Q E), fun A outer s H args us vs Q E _ _ _ _ h => absurd h (no vs H Q E)⟩
  | n + 1 => counts_step T (ok_counts T n)
end
end HA

/-! Kinds, holds. -/
namespace HA
open PySem PySem.Spec PyProof.Rows L2 HX
/-- the way out by an error of that class, which tells the name -/
def Out (C : Addr) (x : Str) (H : Hp) (E : XK) : Prop := ∀ H' d, Same H H' → H d = none → H' d = some (.xd [("name", .str x)]) → E (.ref C) (some d) H'
theorem kit_ib {K : PySem.W.Frag} : PySem.W.kitOne K (.type "int") (.type "bool") = some false := kit_ty (by decide +kernel)
theorem kit_ts {K : PySem.W.Frag} : PySem.W.kitOne K (.type "tuple") (.type "str") = some false := kit_ty (by decide +kernel)
theorem ne2 {A B : Prop} {x y : V} (e : x = y) (b : B) : if (!decide (x = y)) = true then A else B := by
  subst e
  rw [decide_eq_true rfl]
  exact b
section
variable {P : Program} {w : World} {K : PySem.W.Frag} {mg : Str → Option Value} {base : Heap}
/-- the errors are made -/
theorem ok_init_UnknownName (T : Tx K w mg) {k : Nat} : FnOk P w K mg base CX0 (k + 1) T.fi_UnknownName T.di_UnknownName ["self", "name"] (spErrInit T.c_UnknownName "name") := by
  refine T.Fi_UnknownName.ok sc_UnknownName (fun vs H Q E h => ?_) (fun cdv A outer s H vs Q E hr h => ?_)
  · obtain ⟨a, v, rfl, _⟩ := h
    rfl
  obtain ⟨a, v, rfl, ha, q⟩ := h
  refine ⟨_, pss_cons (ps_expr (pe_bsinit T.b_HeldError (by rfl) T.gc_HeldError (pa_cons (pv 0) (pa_cons pe_str pa_nil)))) (pss_one (ps_ost (pv 0) (pv 1))), ?_⟩
  refine ⟨_, rfl, a, T.c_UnknownName, _, rfl, (by show 1 ≤ 1000; decide), T.o_UnknownName, ha, ?_⟩
  exact ⟨_, rfl, _, rfl, a, T.c_UnknownName, rfl, T.o_UnknownName, T.n_UnknownName, .inl ⟨ha, fun d nd da => q d nd da⟩⟩
theorem ok_init_NoRoom (T : Tx K w mg) {k : Nat} : FnOk P w K mg base CX0 (k + 1) T.fi_NoRoom T.di_NoRoom ["self", "name"] (spErrInit T.c_NoRoom "name") := by
  refine T.Fi_NoRoom.ok sc_NoRoom (fun vs H Q E h => ?_) (fun cdv A outer s H vs Q E hr h => ?_)
  · obtain ⟨a, v, rfl, _⟩ := h
    rfl
  obtain ⟨a, v, rfl, ha, q⟩ := h
  refine ⟨_, pss_cons (ps_expr (pe_bsinit T.b_HeldError (by rfl) T.gc_HeldError (pa_cons (pv 0) (pa_cons pe_str pa_nil)))) (pss_one (ps_ost (pv 0) (pv 1))), ?_⟩
  refine ⟨_, rfl, a, T.c_NoRoom, _, rfl, (by show 1 ≤ 1000; decide), T.o_NoRoom, ha, ?_⟩
  exact ⟨_, rfl, _, rfl, a, T.c_NoRoom, rfl, T.o_NoRoom, T.n_NoRoom, .inl ⟨ha, fun d nd da => q d nd da⟩⟩
def spIsNum : Sp := fun vs H Q _ => ∃ i : Int, vs = [.int i] ∧ Q (.bl true) H
theorem ok_is_number (T : Tx K w mg) {k : Nat} : FnOk P w K mg base CX0 (k + 1) T.a_is_number T.d_is_number ["value"] spIsNum := by
  refine T.F_is_number.ok sc_is_number (fun vs H Q E h => ?_) (fun cdv A outer s H vs Q E hr h => ?_)
  · obtain ⟨i, rfl, _⟩ := h
    rfl
  obtain ⟨i, rfl, q⟩ := h
  refine ⟨_, (pss_one (ps_ret (pe_and (pe_callB call_isi (by rfl) T.z_isinstance (by decide +kernel) (pa_cons (pv 0) (pa_cons (pe_bltn (v := .ty "int") (by rfl) T.z_int (by decide +kernel) rfl) pa_nil))) (pe_one (pe_not (pe_callB call_isi (by rfl) T.z_isinstance (by decide +kernel) (pa_cons (pv 0) (pa_cons (pe_bltn (v := .ty "bool") (by rfl) T.z_bool (by decide +kernel) rfl) pa_nil)))))))), ?_⟩
  refine ⟨_, rfl, _, _, _, _, _, rfl, .ty _, ty_int i, kit_ii, _, rfl, iteT ?_⟩
  exact ⟨_, rfl, _, _, _, _, _, rfl, .ty _, ty_int i, kit_ib, _, rfl, q⟩
theorem ge_tt {A B : Prop} {i j : Int} (h : j ≤ i) (a : A) : if decide (i ≥ j) = true then A else B := by rw [if_pos (decide_eq_true h)]; exact a
def spIsKind (K : PySem.W.Frag) : Sp := fun vs H Q _ => ∃ (v : V) (k : Kd), vs = [v] ∧ Dp K H v k.d ∧ k.pos ∧ Q (.bl true) H
theorem ok_is_kind (T : Tx K w mg) {k : Nat} : FnOk P w K mg base CX0 (k + 2) T.a_is_kind T.d_is_kind ["value"] (spIsKind K) := by
  have G_is_number := ok_is_number (P := P) (base := base) T (k := k)
  refine T.F_is_kind.ok sc_is_kind (fun vs H Q E h => ?_) (fun cdv A outer s H vs Q E hr h => ?_)
  · obtain ⟨v, k, rfl, _⟩ := h
    rfl
  obtain ⟨v, kd, rfl, hv, ps, q⟩ := h
  refine ⟨_, (pss_cons (ps_if (pt_val (pe_callB call_isi (by rfl) T.z_isinstance (by decide +kernel) (pa_cons (pv 0) (pa_cons (pe_bltn (v := .ty "str") (by rfl) T.z_str (by decide +kernel) rfl) pa_nil))))
      (pss_one (ps_ret (pe_cmpR (op_eqD hr.units) (pv 0) pe_str (nomark _))))
      pss_nil)
    (pss_cons (ps_if (PW.pt (pw_or (pt_not (pt_val (pe_callB call_isi (by rfl) T.z_isinstance (by decide +kernel) (pa_cons (pv 0) (pa_cons (pe_bltn (v := .ty "tuple") (by rfl) T.z_tuple (by decide +kernel) rfl) pa_nil))))) (pw_or1 (pt_cmpR op_ne (pe_callB call_len_seq (by rfl) T.z_len (by decide +kernel) (pa_cons (pv 0) pa_nil)) pe_int (nomark _)))))
      (pss_one (ps_ret pe_bl))
      pss_nil)
    (pss_cons (ps_if (PW.pt (pw_or (pt_not (pt_val (pe_call (G_is_number) hr (by rfl) T.g_is_number T.k_is_number T.b_is_number .nil pass0 (pa_cons (pe_ix ix_tup (pv 0) pe_int (fun _ _ => rfl)) pa_nil)))) (pw_or1 (pt_not (pt_val (pe_call (G_is_number) hr (by rfl) T.g_is_number T.k_is_number T.b_is_number .nil pass0 (pa_cons (pe_ix ix_tup (pv 0) pe_int (fun _ _ => rfl)) pa_nil)))))))
      (pss_one (ps_ret pe_bl))
      pss_nil)
    (pss_one (ps_ret (pe_and (pe_cmpR op_ge (pe_ix ix_tup (pv 0) pe_int (fun _ _ => rfl)) pe_int (nomark _)) (pe_one (pe_cmpR op_ge (pe_ix ix_tup (pv 0) pe_int (fun _ _ => rfl)) pe_int (nomark _))))))))), ?_⟩
  rcases dp_kd hv with ⟨rfl, rfl⟩ | ⟨a, n, d, rfl, rfl, hs⟩
  · refine ⟨_, rfl, _, _, _, _, _, rfl, .ty _, ty_str _, kit_ss, _, rfl, iteT ?_⟩
    refine ⟨_, rfl, .str "once", .str "once", .str _, .str _, shaped_once, shaped_once, ?_⟩
    rw [show PyData.eqv (.str "once") (.str "once") = true by decide +kernel]
    exact q
  · refine ⟨_, rfl, _, _, _, _, _, rfl, .ty _, ty_tup hs, kit_ts, _, rfl, iteF ?_⟩
    refine ⟨_, rfl, _, _, _, _, _, rfl, .ty _, ty_tup hs, kit_tt, _, rfl, iteF ?_⟩
    refine ⟨_, rfl, a, _, rfl, .inr hs, rfl, _, rfl, ne2 rfl ?_⟩
    refine ⟨_, rfl, a, _, 0, .int n, rfl, rfl, hs, atI_at (j := 0) rfl rfl, n, rfl, _, rfl, iteF ?_⟩
    refine ⟨_, rfl, a, _, 1, .int d, rfl, rfl, hs, atI_at (j := 1) rfl rfl, d, rfl, _, rfl, iteF ?_⟩
    refine ⟨_, rfl, a, _, 0, .int n, rfl, rfl, hs, atI_at (j := 0) rfl rfl, _, _, rfl, rfl, _, rfl, ge_tt ps.1 ?_⟩
    refine ⟨_, rfl, a, _, 1, .int d, rfl, rfl, hs, atI_at (j := 1) rfl rfl, _, _, rfl, rfl, ?_⟩
    show Q (.bl (decide (0 ≤ d))) H
    rw [decide_eq_true (show 0 ≤ d from ps.2)]
    exact q
def spNested (K : PySem.W.Frag) : Sp := fun vs H Q _ => ∃ (v u : V) (a b : Kd), vs = [v, u] ∧ Dp K H v a.d ∧ Dp K H u b.d ∧ a.ok ∧ ∀ H' r, Same H H' → Dp K H' r (a.nst b).d → Q r H'
theorem ok_nested (T : Tx K w mg) {k : Nat} : FnOk P w K mg base CX0 (k + 1) T.a_nested T.d_nested ["outer", "inner"] (spNested K) := by
  refine T.F_nested.ok sc_nested (fun vs H Q E h => ?_) (fun cdv A outer s H vs Q E hr h => ?_)
  · obtain ⟨v, u, a, b, rfl, _⟩ := h
    rfl
  obtain ⟨v, u, a, b, rfl, hv, hu, ok, q⟩ := h
  refine ⟨_, (pss_cons (ps_if (pt_cmpR (op_eqD hr.units) (pv 0) pe_str (nomark _))
      (pss_one (ps_ret (pv 1)))
      pss_nil)
    (pss_cons (ps_if (pt_cmpR (op_eqD hr.units) (pv 1) pe_str (nomark _))
      (pss_one (ps_ret (pv 0)))
      pss_nil)
    (pss_one (ps_ret (pe_tupN (pa_cons (pe_op op_mul (pe_ix ix_tup (pv 0) pe_int (fun _ _ => rfl)) (pe_ix ix_tup (pv 1) pe_int (fun _ _ => rfl))) (pa_cons (pe_op op_add (pe_ix ix_tup (pv 0) pe_int (fun _ _ => rfl)) (pe_ix ix_tup (pv 1) pe_int (fun _ _ => rfl))) pa_nil))))))), ?_⟩
  refine ⟨_, rfl, a.d, .str "once", hv, .str _, shaped_kd a, shaped_once, _, rfl, ?_⟩
  rw [eqv_once]
  rcases dp_kd hv with ⟨rfl, rfl⟩ | ⟨x, n, d, rfl, rfl, hx⟩
  · exact iteB (fun _ => ⟨_, rfl, q H u (Same.refl H) hu⟩) (fun z => absurd rfl (of_decide_eq_false z))
  refine iteB (fun z => absurd (of_decide_eq_true z) (by intro z; cases z)) fun _ => ?_
  refine ⟨_, rfl, b.d, .str "once", hu, .str _, shaped_kd b, shaped_once, _, rfl, ?_⟩
  rw [eqv_once]
  rcases dp_kd hu with ⟨rfl, rfl⟩ | ⟨y, m, e, rfl, rfl, hy⟩
  · exact iteB (fun _ => ⟨_, rfl, q H _ (Same.refl H) hv⟩) (fun z => absurd rfl (of_decide_eq_false z))
  refine iteB (fun z => absurd (of_decide_eq_true z) (by intro z; cases z)) fun _ => ?_
  have n1 : 1 ≤ n := ok.1
  have n2 : n ≤ 1000000 := ok.2.1
  refine ⟨_, rfl, x, _, 0, .int n, rfl, rfl, hx, atI_at (j := 0) rfl rfl, _, rfl, y, _, 0, .int m, rfl, rfl, hy, atI_at (j := 0) rfl rfl, _, _, rfl, rfl, .inl ⟨by omega, by omega⟩, ?_⟩
  refine ⟨_, rfl, x, _, 1, .int d, rfl, rfl, hx, atI_at (j := 1) rfl rfl, _, rfl, y, _, 1, .int e, rfl, rfl, hy, atI_at (j := 1) rfl rfl, _, _, rfl, rfl, ?_⟩
  exact ⟨(by show 2 ≤ 1000; decide), fun H1 p s1 np hp => q H1 _ s1 (.tup (SqT.of hp) (.cons (.int _) (.cons (.int _) .nil)))⟩
def spPooled (K : PySem.W.Frag) : Sp := fun vs H Q _ => ∃ (v u : V) (a b c : Kd), vs = [v, u] ∧ Dp K H v a.d ∧ Dp K H u b.d ∧ a.plus b = some c ∧ ∀ H' r, Same H H' → Dp K H' r c.d → Q r H'
theorem max_if (i j : Int) : (if j > i then j else i) = max i j := by split <;> omega
theorem ok_pooled (T : Tx K w mg) {k : Nat} : FnOk P w K mg base CX0 (k + 1) T.a_pooled T.d_pooled ["first", "second"] (spPooled K) := by
  refine T.F_pooled.ok sc_pooled (fun vs H Q E h => ?_) (fun cdv A outer s H vs Q E hr h => ?_)
  · obtain ⟨v, u, a, b, c, rfl, _⟩ := h
    rfl
  obtain ⟨v, u, a, b, c, rfl, hv, hu, e, q⟩ := h
  cases a with
  | once => cases e
  | st n d => cases b with
    | once => cases e
    | st m f =>
      cases e
      obtain ⟨x, n', d', ek, rfl, hx⟩ := (dp_kd hv).resolve_left fun z => by cases z.1
      cases ek
      obtain ⟨y, m', f', ek, rfl, hy⟩ := (dp_kd hu).resolve_left fun z => by cases z.1
      cases ek
      refine ⟨_, (pss_cons (ps_for PassesOwn.never rfl (pi_tup (pe_tupN (pa_cons (pv 0) (pa_cons (pv 1) pa_nil)))) (pg_name (i := 2) sc_pooled.nd rfl (Or.inl rfl))
      (pss_one (ps_if (pt_cmpR (op_eqD hr.units) (pv 2) pe_str (nomark _))
        (pss_one HX.ps_never)
        pss_nil)))
    (pss_one (ps_ret (pe_tupN (pa_cons (pe_op op_add (pe_ix ix_tup (pv 0) pe_int (fun _ _ => rfl)) (pe_ix ix_tup (pv 1) pe_int (fun _ _ => rfl))) (pa_cons (pe_callB (call_max2 rfl) (by rfl) T.z_max (by decide +kernel) (pa_cons (pe_ix ix_tup (pv 0) pe_int (fun _ _ => rfl)) (pa_cons (pe_ix ix_tup (pv 1) pe_int (fun _ _ => rfl)) pa_nil))) pa_nil)))))), ?_⟩
      refine ⟨_, rfl, _, rfl, (by show 2 ≤ 1000; decide), fun H1 p s1 np hp => ⟨p, rfl, ⟨_, SqT.of hp⟩, ?_⟩⟩
      refine for_tup (xs := [.ref x, .ref y]) (fun i σ' H' => ∃ z : Option V, σ' = [some (.ref x), some (.ref y), z] ∧ H' = H1) ⟨none, rfl, rfl⟩ ?_ ?_ ?_
      · rintro i σ' H' _ ⟨z, _, rfl⟩
        exact SqT.of hp
      · rintro i z σ' H' hi ⟨z0, rfl, eH⟩
        have eH' := eH.symm
        subst eH'
        have key : ∃ nn kk, Dp K H1 z (Kd.d (.st nn kk)) := by
          cases i with
          | zero => cases hi; exact ⟨n, d, Dp.sm s1 _ _ hv⟩
          | succ i => cases i with
            | zero => cases hi; exact ⟨m, f, Dp.sm s1 _ _ hu⟩
            | succ i => cases hi
        obtain ⟨nn, kk, hz⟩ := key
        refine ⟨_, rfl, _, .str "once", hz, .str _, shaped_kd _, shaped_once, _, rfl, ?_⟩
        rw [eqv_once]
        exact iteB (fun z => absurd (of_decide_eq_true z) (by intro z; cases z)) fun _ => ⟨_, rfl, rfl⟩
      · rintro σ' H' ⟨z0, rfl, eH⟩
        have eH' := eH.symm
        subst eH'
        refine ⟨_, rfl, x, _, 0, .int n, rfl, rfl, s1.seqT hx, atI_at (j := 0) rfl rfl, _, rfl, y, _, 0, .int m, rfl, rfl, s1.seqT hy, atI_at (j := 0) rfl rfl, _, _, rfl, rfl, ?_⟩
        refine ⟨_, rfl, x, _, 1, .int d, rfl, rfl, s1.seqT hx, atI_at (j := 1) rfl rfl, _, rfl, y, _, 1, .int f, rfl, rfl, s1.seqT hy, atI_at (j := 1) rfl rfl, _, _, rfl, ?_⟩
        rw [max_if]
        exact ⟨(by show 2 ≤ 1000; decide), fun H2 r s2 nr hr' => q H2 _ (s1.trans s2) (.tup (SqT.of hr') (.cons (.int _) (.cons (.int _) .nil)))⟩
def spCovers (K : PySem.W.Frag) : Sp := fun vs H Q _ => ∃ (v u : V) (a b : Kd), vs = [v, u] ∧ Dp K H v a.d ∧ Dp K H u b.d ∧ Q (.bl (a.covers b)) H
theorem ok_covers (T : Tx K w mg) {k : Nat} : FnOk P w K mg base CX0 (k + 1) T.a_covers T.d_covers ["room", "kind"] (spCovers K) := by
  refine T.F_covers.ok sc_covers (fun vs H Q E h => ?_) (fun cdv A outer s H vs Q E hr h => ?_)
  · obtain ⟨v, u, a, b, rfl, _⟩ := h
    rfl
  obtain ⟨v, u, a, b, rfl, hv, hu, q⟩ := h
  refine ⟨_, (pss_cons (ps_if (pt_cmpR (op_eqD hr.units) (pv 1) pe_str (nomark _))
      (pss_one (ps_ret pe_bl))
      pss_nil)
    (pss_cons (ps_if (pt_cmpR (op_eqD hr.units) (pv 0) pe_str (nomark _))
      (pss_one (ps_ret pe_bl))
      pss_nil)
    (pss_one (ps_ret (pe_and (pe_cmpR op_le (pe_ix ix_tup (pv 1) pe_int (fun _ _ => rfl)) (pe_ix ix_tup (pv 0) pe_int (fun _ _ => rfl)) (nomark _)) (pe_one (pe_cmpR op_le (pe_ix ix_tup (pv 1) pe_int (fun _ _ => rfl)) (pe_ix ix_tup (pv 0) pe_int (fun _ _ => rfl)) (nomark _)))))))), ?_⟩
  refine ⟨_, rfl, b.d, .str "once", hu, .str _, shaped_kd b, shaped_once, _, rfl, ?_⟩
  rw [eqv_once]
  rcases dp_kd hu with ⟨rfl, rfl⟩ | ⟨y, m, e, rfl, rfl, hy⟩
  · rw [show a.covers .once = true by cases a <;> rfl] at q
    exact iteB (fun _ => q) (fun z => absurd rfl (of_decide_eq_false z))
  refine iteB (fun z => absurd (of_decide_eq_true z) (by intro z; cases z)) fun _ => ?_
  refine ⟨_, rfl, a.d, .str "once", hv, .str _, shaped_kd a, shaped_once, _, rfl, ?_⟩
  rw [eqv_once]
  rcases dp_kd hv with ⟨rfl, rfl⟩ | ⟨x, n, d, rfl, rfl, hx⟩
  · exact iteB (fun _ => q) (fun z => absurd rfl (of_decide_eq_false z))
  refine iteB (fun z => absurd (of_decide_eq_true z) (by intro z; cases z)) fun _ => ?_
  have q' : Q (.bl (decide (m ≤ n) && decide (e ≤ d))) H := q
  refine ⟨_, rfl, y, _, 0, .int m, rfl, rfl, hy, atI_at (j := 0) rfl rfl, _, rfl, x, _, 0, .int n, rfl, rfl, hx, atI_at (j := 0) rfl rfl, _, _, rfl, rfl, _, rfl, iteB (fun c => ?_) fun c => ?_⟩
  · rw [show decide (m ≤ n) = true from c, Bool.true_and] at q'
    exact ⟨_, rfl, y, _, 1, .int e, rfl, rfl, hy, atI_at (j := 1) rfl rfl, _, rfl, x, _, 1, .int d, rfl, rfl, hx, atI_at (j := 1) rfl rfl, _, _, rfl, rfl, q'⟩
  · rw [show decide (m ≤ n) = false from c, Bool.false_and] at q'
    exact q'
def spTrade (K : PySem.W.Frag) : Sp := fun vs H Q _ => ∃ (v u z : V) (a b : Sn) (k : Kd), vs = [v, u, z] ∧ Dp K H v a.d ∧ Dp K H u b.d ∧ Dp K H z k.d ∧ k.pos ∧ ∀ H' r, Same H H' → Dp K H' r (Sn.trade k a b).d → Q r H'
theorem ok_trade (T : Tx K w mg) {k : Nat} : FnOk P w K mg base CX0 (k + 3) T.a_trade T.d_trade ["price", "goods", "kind"] (spTrade K) := by
  have G_is_kind := ok_is_kind (P := P) (base := base) T (k := k)
  refine T.F_trade.ok sc_trade (fun vs H Q E h => ?_) (fun cdv A outer s H vs Q E hr h => ?_)
  · obtain ⟨v, u, z, a, b, k, rfl, _⟩ := h
    rfl
  obtain ⟨v, u, z, a, b, kd, rfl, hv, hu, hz, ps, q⟩ := h
  refine ⟨_, (pss_cons (ps_if (pt_not (pt_val (pe_call (G_is_kind) hr (by rfl) T.g_is_kind T.k_is_kind T.b_is_kind .nil pass0 (pa_cons (pv 2) pa_nil))))
      (pss_one HX.ps_never)
      pss_nil)
    (pss_one (ps_ret (pe_tupN (pa_cons pe_str (pa_cons (pv 2) (pa_cons (pv 0) (pa_cons (pv 1) pa_nil)))))))), ?_⟩
  refine ⟨_, rfl, z, kd, rfl, hz, ps, _, rfl, iteF ?_⟩
  exact ⟨_, rfl, _, rfl, _, rfl, (by show 4 ≤ 1000; decide), fun H1 p s1 np hp => q H1 _ s1 (.tup (SqT.of hp) (.cons (.str _) (.cons (Dp.sm s1 _ _ hz) (.cons (Dp.sm s1 _ _ hv) (.cons (Dp.sm s1 _ _ hu) .nil)))))⟩
end
end HA

/-! Claims mended. -/
namespace HA
open PySem PySem.Spec PyProof.Rows L2 HX
theorem Hold.tu (h : Hold) : HA.tu h.d = true := by
  show (true && (HA.tu h.kd.d && (HA.tu h.sn.d && true))) = true
  rw [Kd.tu, Sn.tu]
  rfl
theorem holds_tu (l : List Hold) : tuAll (l.map Hold.d) = true := by
  induction l with
  | nil => rfl
  | cons h l ih =>
    show (HA.tu h.d && tuAll (l.map Hold.d)) = true
    rw [h.tu, ih]; rfl
theorem Clm.tu (c : Clm) : HA.tu c.d = true := by
  show (tuAll (c.hs.map Hold.d) && (HA.tu c.goal.d && true)) = true
  rw [holds_tu, Sn.tu]; rfl
theorem clm_at {K : PySem.W.Frag} {H : Hp} {v : V} {c : Clm} (h : Dp K H v c.d) : ∃ a b u xs, v = .ref a ∧ SqT K H a [.ref b, u] ∧ SqT K H b xs ∧ DpAll K H xs (c.hs.map Hold.d) ∧ Dp K H u c.goal.d := by
  obtain ⟨a, ys, rfl, hs, ha⟩ := Dp.tup_inv h
  obtain ⟨y, ys, rfl, h1, ha⟩ := dc1 ha
  obtain ⟨u, ys, rfl, h2, ha⟩ := dc1 ha
  obtain rfl := dc0 ha
  obtain ⟨b, xs, rfl, hb, hx⟩ := Dp.tup_inv h1
  exact ⟨a, b, u, xs, rfl, hs, hb, hx, h2⟩
theorem hold_at {K : PySem.W.Frag} {H : Hp} {v : V} {h : Hold} (e : Dp K H v h.d) : ∃ a y z, v = .ref a ∧ SqT K H a [.str h.nm, y, z] ∧ Dp K H y h.kd.d ∧ Dp K H z h.sn.d := by
  obtain ⟨a, ys, rfl, hs, ha⟩ := Dp.tup_inv e
  obtain ⟨n, ys, rfl, h0, ha⟩ := dc1 ha
  obtain ⟨y, ys, rfl, h1, ha⟩ := dc1 ha
  obtain ⟨u, ys, rfl, h2, ha⟩ := dc1 ha
  obtain rfl := dc0 ha
  obtain rfl := h0.str_inv
  exact ⟨a, y, u, rfl, hs, h1, h2⟩
theorem hold_get {K : PySem.W.Frag} {H : Hp} {xs : List V} {l : List Hold} {i : Nat} {x : V} (hx : DpAll K H xs (l.map Hold.d)) (hi : xs[i]? = some x) : ∃ h, l[i]? = some h ∧ Dp K H x h.d := by
  obtain ⟨d, hd, hx⟩ := hx.atV hi
  rw [List.getElem?_map] at hd
  cases hc : l[i]? with
  | none => rw [hc] at hd; cases hd
  | some h =>
    rw [hc] at hd
    cases hd
    exact ⟨h, rfl, hx⟩
theorem clm_mk {K : PySem.W.Frag} {H : Hp} {p b : Addr} {u : V} {xs : List V} {l : List Hold} {g : Sn} (hp : SqT K H p [.ref b, u]) (hb : SqT K H b xs) (hx : DpAll K H xs (l.map Hold.d)) (hu : Dp K H u g.d) : Dp K H (.ref p) (Clm.d ⟨l, g⟩) :=
  .tup hp (.cons (.tup hb hx) (.cons hu .nil))
theorem drop_at {α : Type} {l : List α} {i : Nat} {x : α} (h : l[i]? = some x) : l.drop i = x :: l.drop (i + 1) := by
  obtain ⟨h1, h2⟩ := List.getElem?_eq_some_iff.mp h
  rw [List.drop_eq_getElem_cons h1, h2]
theorem once_in (a b : Kd) : ([a.d, b.d].any fun z => PyData.eqv z (.str "once")) = (a.plus b).isNone := by
  show (PyData.eqv a.d (.str "once") || (PyData.eqv b.d (.str "once") || false)) = _
  rw [eqv_once, eqv_once]
  cases a <;> cases b <;> simp [Kd.plus]
theorem kd_dep (k : Kd) : k.d.depth ≤ 1 := by cases k <;> simp [Kd.d, PyData.depth, PyData.depthAll]
theorem shaped_two (a b : Kd) : SeqAt.shaped (.tuple [a.d, b.d]) = true := by
  have e : PyData.canLay0 (.tuple [a.d, b.d]) = true := by
    show (a.d.canLay0 && (b.d.canLay0 && true)) = true
    rw [kd_lay, kd_lay]; rfl
  have h1 := kd_dep a
  have h2 := kd_dep b
  unfold SeqAt.shaped
  rw [e, decide_eq_true (show (PyData.tuple [a.d, b.d]).depth ≤ 64 by simp only [PyData.depth, PyData.depthAll]; omega)]
  rfl
section
variable {P : Program} {w : World} {K : PySem.W.Frag} {mg : Str → Option Value} {base : Heap}
def spHoldOf (K : PySem.W.Frag) (C : Addr) : Sp := fun vs H Q E => ∃ (v : V) (c : Clm) (x : Str), vs = [v, .str x] ∧ Dp K H v c.d ∧
  (∀ h, c.row x = some h → ∀ H' p y z, Same H H' → SqT K H' p [y, z] → Dp K H' y h.kd.d → Dp K H' z h.sn.d → Q (.ref p) H') ∧ (c.row x = none → Out C x H E)
theorem ok_hold_of (T : Tx K w mg) {k : Nat} : FnOk P w K mg base (L2.CX P w) (k + 3) T.a_hold_of T.d_hold_of ["claim", "name"] (spHoldOf K T.c_UnknownName) := by
  refine T.F_hold_of.okX sc_hold_of (fun vs H Q E h => ?_) (fun cdv A outer s H vs Q E hr h => ?_)
  · obtain ⟨v, c, x, rfl, _⟩ := h
    rfl
  obtain ⟨v, c, x, rfl, hv, q1, q0⟩ := h
  obtain ⟨a, b, u, xs, rfl, ha, hb, hx, hu⟩ := clm_at hv
  have lx := hx.len
  rw [List.length_map] at lx
  refine ⟨_, (pss_cons (ps_for (passes_of rfl) rfl (pi_tup (pe_ix ix_tup (pv 0) pe_int (fun _ _ => rfl))) (pg_tup (by rfl) (pgs_cons (pg_name (i := 2) sc_hold_of.nd rfl (Or.inl rfl)) (pgs_cons (pg_name (i := 3) sc_hold_of.nd rfl (Or.inl rfl)) (pgs_cons (pg_name (i := 4) sc_hold_of.nd rfl (Or.inl rfl)) pgs_nil))))
      (pss_one (ps_if (pt_cmpR op_eq (pv 2) (pv 1) (nomark _))
        (pss_one (ps_ret (pe_tupN (pa_cons (pv 3) (pa_cons (pv 4) pa_nil)))))
        pss_nil)))
    (pss_one (ps_raiseErr rfl T.o_UnknownName T.i_UnknownName T.ti_UnknownName (ok_init_UnknownName T) hr T.bi_UnknownName (by rfl) T.gc_UnknownName (takes_of rfl rfl rfl rfl) (pv 1)))), ?_⟩
  refine ⟨_, rfl, a, _, 0, .ref b, rfl, rfl, ha, atI_at (j := 0) rfl rfl, b, rfl, ⟨_, hb⟩, ?_⟩
  refine for_tup (xs := xs) (fun i σ' H' => ∃ y2 y3 y4 : Option V, σ' = [some (.ref a), some (.str x), y2, y3, y4] ∧ H' = H ∧ c.row x = Clm.row ⟨c.hs.drop i, c.goal⟩ x) ⟨none, none, none, rfl, rfl, rfl⟩ ?_ ?_ ?_
  · rintro i σ' H' _ ⟨_, _, _, _, rfl, _⟩
    exact hb
  · rintro i z σ' H' hi ⟨y2, y3, y4, rfl, eH, e⟩
    have eH' := eH.symm
    subst eH'
    obtain ⟨h, hh, hz⟩ := hold_get hx hi
    obtain ⟨p, y, s, rfl, hp, hy, hs⟩ := hold_at hz
    rw [drop_at hh, row_cons] at e
    refine ⟨p, _, rfl, hp, rfl, _, _, rfl, _, _, rfl, _, _, rfl, rfl, ?_⟩
    refine ⟨_, rfl, _, rfl, rfl, _, rfl, iteB (fun c1 => ?_) (fun c1 => ?_)⟩
    · have eq : h.nm = x := V.str.inj (of_decide_eq_true c1)
      rw [if_pos eq] at e
      exact ⟨_, rfl, _, rfl, (by show 2 ≤ 1000; decide), fun H1 r s1 nr hr1 => q1 h e H1 r y s s1 (SqT.of hr1) (Dp.sm s1 _ _ hy) (Dp.sm s1 _ _ hs)⟩
    · have ne : ¬ h.nm = x := fun z => of_decide_eq_false c1 (by rw [z])
      rw [if_neg ne] at e
      exact ⟨_, _, _, rfl, rfl, e⟩
  · rintro σ' H' ⟨y2, y3, y4, rfl, eH, e⟩
    have eH' := eH.symm
    subst eH'
    rw [lx, List.drop_length] at e
    exact ⟨_, rfl, fun H' d s1 n1 h1 => q0 e H' d s1 n1 h1⟩
def spWithout (K : PySem.W.Frag) (C : Addr) : Sp := fun vs H Q E => ∃ (v : V) (c : Clm) (x : Str), vs = [v, .str x] ∧ Dp K H v c.d ∧ c.hs.length ≤ 30 ∧
  (c.row x ≠ none → ∀ H' p b u xs, Same H H' → SqT K H' p [.ref b, u] → SqT K H' b xs → DpAll K H' xs ((c.without x).map Hold.d) → Dp K H' u c.goal.d → Q (.ref p) H') ∧ (c.row x = none → Out C x H E)
theorem ok_without_hold (T : Tx K w mg) {k : Nat} : FnOk P w K mg base (L2.CX P w) (k + 4) T.a_without_hold T.d_without_hold ["claim", "name"] (spWithout K T.c_UnknownName) := by
  have G_hold_of := ok_hold_of (P := P) (base := base) T (k := k)
  refine T.F_without_hold.okX sc_without_hold (fun vs H Q E h => ?_) (fun cdv A outer s H vs Q E hr h => ?_)
  · obtain ⟨v, c, x, rfl, _⟩ := h
    rfl
  obtain ⟨v, c, x, rfl, hv, few, q1, q0⟩ := h
  refine ⟨_, (pss_cons (ps_expr (pe_callS (G_hold_of) hr (by rfl) T.g_hold_of T.k_hold_of T.b_hold_of (fun σ => passAt (takes_of rfl rfl rfl rfl) σ) (pa_cons (pv 0) (pa_cons (pv 1) pa_nil))))
    (pss_one (ps_ret (pe_tupN (pa_cons (pe_callTy call_tupleN (by rfl) T.z_tuple (by decide +kernel) (pa_cons (pe_lc (own := [("hold", 2)]) (g := gName 2) rfl sc_without_hold.nd (pi_tup (pe_ix ix_tup (pv 0) pe_int (fun _ _ => rfl))) (blkOk_by (own := [("hold", 2)]) (N := N_without_hold) (sc := defScope s_without_hold) (by decide +kernel)) (fun _ _ _ _ _ => pg_name (i := 2) sc_without_hold.nd rfl (Or.inl rfl)) (fun _ _ _ _ _ => pts_one (pt_cmpR op_ne (pe_ix (ix_tupK (K := K) rfl) (pv 2) pe_int (fun _ _ => rfl)) (pv 1) (nomark _))) (fun _ _ _ _ _ => (pv 2))) pa_nil)) (pa_cons (pe_ix ix_tup (pv 0) pe_int (fun _ _ => rfl)) pa_nil)))))), ?_⟩
  refine ⟨_, rfl, _, rfl, v, c, x, rfl, hv, fun h hrow H1 p y z s1 hp hy hz => ?_, fun e H' d s1 n1 h1 => q0 e H' d s1 n1 h1⟩
  obtain ⟨a, b, u, xs, rfl, ha, hb, hx, hu⟩ := clm_at (Dp.sm s1 _ _ hv)
  have lx := hx.len
  rw [List.length_map] at lx
  refine ⟨_, rfl, a, _, 0, .ref b, rfl, rfl, ha, atI_at (j := 0) rfl rfl, b, rfl, ⟨_, hb⟩, fun D nD => ?_⟩
  refine lc_tup (xs := xs) (fun i H2 => Same H1 H2 ∧ ∃ acc, H2 D = some (.lst acc) ∧ DpAll K H2 acc (((c.hs.take i).filter fun h => decide (h.nm ≠ x)).map Hold.d))
    ⟨Same.new nD, [], upd_same, .nil⟩ (fun i H2 _ pv => pv.1.seqT hb) (fun i z H2 hi pv => ?_) fun H2 pv => ?_
  · obtain ⟨s2, acc, hD, hacc⟩ := pv
    obtain ⟨h, hh, hz⟩ := hold_get hx hi
    have hz2 := Dp.sm s2 _ _ hz
    obtain ⟨p, y, s, rfl, hp, hy, hs⟩ := hold_at hz2
    have et : (c.hs.take (i + 1)) = c.hs.take i ++ [h] := by rw [List.take_add_one, hh]; rfl
    refine ⟨rfl, _, rfl, p, _, 0, .str h.nm, rfl, rfl, hp, atI_at (j := 0) rfl rfl, _, rfl, rfl, _, rfl, iteB (fun c1 => ?_) (fun c1 => ?_)⟩
    · have ne : h.nm ≠ x := fun e => by
        rw [show (!decide (V.str h.nm = V.str x)) = false by rw [e, decide_eq_true rfl]; rfl] at c1
        cases c1
      have la : acc.length ≤ 100000 := by
        have h1 := hacc.len
        have h2 := List.length_filter_le (fun h : Hold => decide (h.nm ≠ x)) (c.hs.take i)
        rw [List.length_map] at h1
        rw [List.length_take] at h2
        omega
      refine ⟨_, rfl, acc, hD, sz_lt la, Same.mut s2 nD, acc ++ [.ref p], upd_same, ?_⟩
      rw [et, List.filter_append, show List.filter (fun h : Hold => decide (h.nm ≠ x)) [h] = [h] by simp [ne], List.map_append]
      exact grown hD hacc hz2 (holds_tu _) h.tu
    · have eq : h.nm = x := by
        by_cases e : h.nm = x
        · exact e
        · rw [show (!decide (V.str h.nm = V.str x)) = true by rw [decide_eq_false fun z => e (V.str.inj z)]; rfl] at c1
          cases c1
      refine ⟨s2, acc, hD, ?_⟩
      rw [et, List.filter_append, show List.filter (fun h : Hold => decide (h.nm ≠ x)) [h] = [] by simp [eq], List.append_nil]
      exact hacc
  · obtain ⟨s2, acc, hD, hacc⟩ := pv
    rw [lx, List.take_length] at hacc
    refine ⟨D, acc, rfl, .inl (SqL.of hD), fun H3 g s3 hg => ?_⟩
    have s13 := s2.trans s3
    refine ⟨_, rfl, a, _, 1, u, rfl, rfl, s13.seqT ha, atI_at (j := 1) rfl rfl, (by show 2 ≤ 1000; decide), fun H4 r s4 nr hr4 => ?_⟩
    exact q1 (by rw [hrow]; exact fun z => by cases z) H4 r g u acc (s1.trans (s13.trans s4)) (SqT.of hr4) (s4.seqT hg) (Dp.smAll (s3.trans s4) _ _ hacc) (Dp.sm (s13.trans s4) _ _ hu)
def spWithKind (K : PySem.W.Frag) : Sp := fun vs H Q _ => ∃ (v u : V) (c : Clm) (x : Str) (k : Kd), vs = [v, .str x, u] ∧ Dp K H v c.d ∧ Dp K H u k.d ∧ c.hs.length ≤ 30 ∧ ∀ H' r, Same H H' → Dp K H' r (Clm.d ⟨c.hs.map (Hold.kind x k), c.goal⟩) → Q r H'
theorem ok_with_kind (T : Tx K w mg) {k : Nat} : FnOk P w K mg base CX0 (k + 1) T.a_with_kind T.d_with_kind ["claim", "name", "kind"] (spWithKind K) := by
  refine T.F_with_kind.ok sc_with_kind (fun vs H Q E h => ?_) (fun cdv A outer s H vs Q E hr h => ?_)
  · obtain ⟨v, u, c, x, k, rfl, _⟩ := h
    rfl
  obtain ⟨v, u, c, x, kd, rfl, hv, hk, few, q⟩ := h
  obtain ⟨a, b, g, xs, rfl, ha, hb, hx, hg⟩ := clm_at hv
  have lx := hx.len
  rw [List.length_map] at lx
  refine ⟨_, (pss_cons (ps_set (i := 3) sc_with_kind.nd rfl (Or.inl rfl) (pe_lstN pa_nil))
    (pss_cons (ps_for PassesOwn.never rfl (pi_tup (pe_ix ix_tup (pv 0) pe_int (fun _ _ => rfl))) (pg_name (i := 4) sc_with_kind.nd rfl (Or.inl rfl))
      (pss_one (ps_if (pt_cmpR op_eq (pe_ix ix_tup (pv 4) pe_int (fun _ _ => rfl)) (pv 1) (nomark _))
        (pss_one (ps_expr (pe_bm PySem.F.plainAttrs_list PySem.F.slot_list_append PySem.F.type_list_append mt_append (pv 3) (pa_cons (pe_tupN (pa_cons (pv 1) (pa_cons (pv 2) (pa_cons (pe_ix ix_tup (pv 4) pe_int (fun _ _ => rfl)) pa_nil)))) pa_nil))))
        (pss_one (ps_expr (pe_bm PySem.F.plainAttrs_list PySem.F.slot_list_append PySem.F.type_list_append mt_append (pv 3) (pa_cons (pv 4) pa_nil)))))))
    (pss_one (ps_ret (pe_tupN (pa_cons (pe_callTy call_tupleN (by rfl) T.z_tuple (by decide +kernel) (pa_cons (pv 3) pa_nil)) (pa_cons (pe_ix ix_tup (pv 0) pe_int (fun _ _ => rfl)) pa_nil))))))), ?_⟩
  refine ⟨Nat.zero_le _, fun H1 L s1 nL hL => ?_⟩
  refine ⟨_, rfl, a, _, 0, .ref b, rfl, rfl, s1.seqT ha, atI_at (j := 0) rfl rfl, b, rfl, ⟨_, s1.seqT hb⟩, ?_⟩
  refine for_tup (xs := xs) (fun i σ' H' => ∃ (y : Option V) (ws : List V), σ' = [some (.ref a), some (.str x), some u, some (.ref L), y] ∧ Kp [L] H1 H' ∧ H' L = some (.lst ws) ∧ DpAll K H' ws (((c.hs.take i).map (Hold.kind x kd)).map Hold.d))
    ⟨none, [], rfl, Kp.refl _, hL, .nil⟩ ?_ ?_ ?_
  · rintro i σ' H' _ ⟨_, _, _, k', _, _⟩
    exact k'.seqT (Lsts.one hL) (s1.seqT hb)
  · rintro i z σ' H' hi ⟨y, ws, rfl, k', hL', hw⟩
    obtain ⟨h, hh, hz⟩ := hold_get hx hi
    have hz' := Dp.kp k' (Lsts.one hL) _ _ h.tu (Dp.sm s1 _ _ hz)
    obtain ⟨p, y1, s, rfl, hp, hy, hs⟩ := hold_at hz'
    have et : (c.hs.take (i + 1)) = c.hs.take i ++ [h] := by rw [List.take_add_one, hh]; rfl
    have lw := hw.len
    rw [List.length_map, List.length_map, List.length_take] at lw
    refine ⟨_, rfl, p, _, 0, .str h.nm, rfl, rfl, hp, atI_at (j := 0) rfl rfl, _, rfl, rfl, _, rfl, iteB (fun c1 => ?_) (fun c1 => ?_)⟩
    · have eq : h.nm = x := V.str.inj (of_decide_eq_true c1)
      refine ⟨_, rfl, .inl ⟨rfl, _, SqL.of hL'⟩, _, rfl, _, rfl, _, rfl, p, _, 2, s, rfl, rfl, hp, atI_at (j := 2) rfl rfl, (by show 3 ≤ 1000; decide), fun H2 r s2 nr hr2 => ?_⟩
      have hL2 := s2 _ _ hL'
      refine ⟨L, ws, _, rfl, rfl, hL2, sz_lt (by omega), ?_⟩
      refine ⟨_, _, rfl, (k'.trans (Kp.of s2)).trans (Kp.wr (.head _)), upd_same, ?_⟩
      rw [et, List.map_append, List.map_append]
      refine grown hL2 (Dp.smAll s2 _ _ hw) ?_ (holds_tu _) (Hold.tu _)
      unfold Hold.kind
      rw [if_pos eq]
      have hk' := Dp.sm s2 _ _ (Dp.kp k' (Lsts.one hL) _ _ (Kd.tu kd) (Dp.sm s1 _ _ hk))
      exact .tup (SqT.of hr2) (.cons (.str _) (.cons hk' (.cons (Dp.sm s2 _ _ hs) .nil)))
    · have ne : ¬ h.nm = x := fun z => of_decide_eq_false c1 (by rw [z])
      refine ⟨_, rfl, .inl ⟨rfl, _, SqL.of hL'⟩, _, rfl, L, ws, _, rfl, rfl, hL', sz_lt (by omega), ?_⟩
      refine ⟨_, _, rfl, k'.trans (Kp.wr (.head _)), upd_same, ?_⟩
      rw [et, List.map_append, List.map_append]
      refine grown hL' hw ?_ (holds_tu _) (Hold.tu _)
      unfold Hold.kind
      rw [if_neg ne]
      exact hz'
  · rintro σ' H' ⟨y, ws, rfl, k', hL', hw⟩
    rw [lx, List.take_length] at hw
    refine ⟨_, rfl, L, ws, rfl, .inl (SqL.of hL'), fun H3 t s3 ht => ?_⟩
    have ha' := s3.seqT (k'.seqT (Lsts.one hL) (s1.seqT ha))
    refine ⟨_, rfl, a, _, 1, g, rfl, rfl, ha', atI_at (j := 1) rfl rfl, (by show 2 ≤ 1000; decide), fun H4 r s4 nr hr4 => ?_⟩
    refine q H4 _ (((Same.kp s1 k' nL).trans s3).trans s4) (clm_mk (SqT.of hr4) (s4.seqT ht) (Dp.smAll (s3.trans s4) _ _ hw) ?_)
    exact Dp.sm (s3.trans s4) _ _ (Dp.kp k' (Lsts.one hL) _ _ (Sn.tu _) (Dp.sm s1 _ _ hg))
def spWithRoom (K : PySem.W.Frag) (C1 C2 : Addr) : Sp := fun vs H Q E => ∃ (v u : V) (c : Clm) (x : Str) (k : Kd), vs = [v, .str x, u] ∧ Dp K H v c.d ∧ Dp K H u k.d ∧ c.hs.length ≤ 30 ∧
  match wideA c x k with
  | .told d => ∀ H' r, Same H H' → Dp K H' r d → Q r H'
  | .unknown z => Out C1 z H E
  | .room z => Out C2 z H E
theorem ok_with_room (T : Tx K w mg) {k : Nat} : FnOk P w K mg base (L2.CX P w) (k + 4) T.a_with_room T.d_with_room ["claim", "name", "kind"] (spWithRoom K T.c_UnknownName T.c_NoRoom) := by
  have G_hold_of := ok_hold_of (P := P) (base := base) T (k := k)
  have G_covers := ok_covers (P := P) (base := base) T (k := k + 2)
  have G_with_kind := ok_with_kind (P := P) (base := base) T (k := k + 2)
  refine T.F_with_room.okX sc_with_room (fun vs H Q E h => ?_) (fun cdv A outer s H vs Q E hr h => ?_)
  · obtain ⟨v, u, c, x, k, rfl, _⟩ := h
    rfl
  obtain ⟨v, u, c, x, kd, rfl, hv, hk, few, q⟩ := h
  refine ⟨_, (pss_cons (ps_if (pt_not (pt_val (pe_call (G_covers) hr (by rfl) T.g_covers T.k_covers T.b_covers .nil pass0 (pa_cons (pv 2) (pa_cons (pe_ix ix_tup (pe_callS (G_hold_of) hr (by rfl) T.g_hold_of T.k_hold_of T.b_hold_of (fun σ => passAt (takes_of rfl rfl rfl rfl) σ) (pa_cons (pv 0) (pa_cons (pv 1) pa_nil))) pe_int (fun _ _ => rfl)) pa_nil)))))
      (pss_one (ps_raiseErr rfl T.o_NoRoom T.i_NoRoom T.ti_NoRoom (ok_init_NoRoom T) hr T.bi_NoRoom (by rfl) T.gc_NoRoom (takes_of rfl rfl rfl rfl) (pv 1)))
      pss_nil)
    (pss_one (ps_ret (pe_call (G_with_kind) hr (by rfl) T.g_with_kind T.k_with_kind T.b_with_kind .nil pass0 (pa_cons (pv 0) (pa_cons (pv 1) (pa_cons (pv 2) pa_nil))))))), ?_⟩
  refine ⟨_, rfl, _, rfl, _, rfl, v, c, x, rfl, hv, fun h hrow H1 p y z s1 hp hy hz => ?_, fun e H' d s1 n1 h1 => ?_⟩
  · have q' := q
    unfold wideA at q'
    rw [hrow] at q'
    dsimp only at q'
    refine ⟨p, _, 0, y, rfl, rfl, hp, atI_at (j := 0) rfl rfl, u, y, kd, h.kd, rfl, Dp.sm s1 _ _ hk, hy, _, rfl, ?_⟩
    refine iteB (fun c1 => ?_) fun c1 => ?_
    · have e : kd.covers h.kd = false := by
        cases q : kd.covers h.kd with
        | false => rfl
        | true => rw [q] at c1; cases c1
      rw [if_neg (by rw [e]; decide)] at q'
      exact ⟨_, rfl, fun H' d s2 n2 h2 => q' H' d (s1.trans s2) (s1.free n2) h2⟩
    · have e : kd.covers h.kd = true := by
        cases q : kd.covers h.kd with
        | true => rfl
        | false => rw [q] at c1; cases c1
      rw [if_pos e] at q'
      exact ⟨_, rfl, _, rfl, _, rfl, v, u, c, x, kd, rfl, Dp.sm s1 _ _ hv, Dp.sm s1 _ _ hk, few, fun H2 r s2 hr2 => q' H2 r (s1.trans s2) hr2⟩
  · have q' := q
    unfold wideA at q'
    rw [e] at q'
    exact q' H' d s1 n1 h1
end
end HA

/-! Claims mended: two holds made one, the least kinds, a hold made a price. -/
namespace HA
open PySem PySem.Spec PyProof.Rows L2 HX
theorem un65 {k : Nat} {A : Around} (h : Room k A) : A.units + 65 < cLine := by have := h.un; omega
theorem CntAt.kl {C L : Addr} {H H' : Hp} {v : V} {t : T3} {ws : List V} (hL : H L = some (.lst ws)) (k : Kp [L] H H') (h : CntAt C H v t) : CntAt C H' v t := by
  obtain ⟨a, dx, rfl, e⟩ := h
  exact ⟨a, dx, rfl, k _ _ (lone (ne_of e hL (by intro z; cases z))) e⟩
section
variable {P : Program} {w : World} {K : PySem.W.Frag} {mg : Str → Option Value} {base : Heap}
def Told (K : PySem.W.Frag) (C1 C2 : Addr) (H : Hp) (Q : VK) (E : XK) : Ans → Prop
  | .told d => ∀ H' r, Same H H' → Dp K H' r d → Q r H'
  | .unknown z => Out C1 z H E
  | .room z => Out C2 z H E
def spPooledHolds (K : PySem.W.Frag) (C1 C2 : Addr) (n : Nat) : Sp := fun vs H Q E => ∃ (v u : V) (c : Clm) (t : Row) (x y : Str), vs = [v, u, .str x, .str y] ∧ Dp K H v c.d ∧ Dp K H u t.d ∧ t.ht ≤ n ∧ c.ok ∧ Told K C1 C2 H Q E (poolA c t x y)
theorem Out.sm {C : Addr} {x : Str} {H H1 : Hp} {E : XK} (s : Same H H1) (q : Out C x H E) : Out C x H1 E := fun H' d s2 n2 h2 => q H' d (s.trans s2) (s.free n2) h2
theorem ok_pooled_holds (T : Tx K w mg) {k : Nat} : FnOk P w K mg base (L2.CX P w) (k + 6) T.a_pooled_holds T.d_pooled_holds ["claim", "derivation", "first", "second"] (spPooledHolds K T.c_UnknownName T.c_NoRoom (k + 4)) := by
  have G_hold_of := ok_hold_of (P := P) (base := base) T (k := k + 2)
  have G_without_hold := ok_without_hold (P := P) (base := base) T (k := k + 1)
  have G_with_kind := ok_with_kind (P := P) (base := base) T (k := k + 4)
  have G_pooled := ok_pooled (P := P) (base := base) T (k := k + 4)
  have G_moved := ok_moved (P := P) (base := base) T (k + 4)
  refine T.F_pooled_holds.okX sc_pooled_holds (fun vs H Q E h => ?_) (fun cdv A outer s H vs Q E hr h => ?_)
  · obtain ⟨v, u, c, t, x, y, rfl, _⟩ := h
    rfl
  obtain ⟨v, u, c, t, x, y, rfl, hv, hu, ht, ok, q⟩ := h
  refine ⟨_, (pss_cons (ps_asg (pe_callS (G_hold_of) hr (by rfl) T.g_hold_of T.k_hold_of T.b_hold_of (fun σ => passAt (takes_of rfl rfl rfl rfl) σ) (pa_cons (pv 0) (pa_cons (pv 2) pa_nil))) (pg_tup (by rfl) (pgs_cons (pg_name (i := 4) sc_pooled_holds.nd rfl (Or.inl rfl)) (pgs_cons (pg_name (i := 5) sc_pooled_holds.nd rfl (Or.inl rfl)) pgs_nil))))
    (pss_cons (ps_asg (pe_callS (G_hold_of) hr (by rfl) T.g_hold_of T.k_hold_of T.b_hold_of (fun σ => passAt (takes_of rfl rfl rfl rfl) σ) (pa_cons (pv 0) (pa_cons (pv 3) pa_nil))) (pg_tup (by rfl) (pgs_cons (pg_name (i := 6) sc_pooled_holds.nd rfl (Or.inl rfl)) (pgs_cons (pg_name (i := 7) sc_pooled_holds.nd rfl (Or.inl rfl)) pgs_nil))))
    (pss_cons (ps_if (PW.pt (pw_or (pt_cmpR op_eq (pv 2) (pv 3) (nomark _)) (pw_or (pt_cmpR (op_neD hr.units) (pv 5) (pv 7) (nomark _)) (pw_or1 (pt_cmpR (op_inT (un65 hr)) pe_str (pe_tupN (pa_cons (pv 4) (pa_cons (pv 6) pa_nil))) (by rfl))))))
      (pss_one (ps_raiseErr rfl T.o_NoRoom T.i_NoRoom T.ti_NoRoom (ok_init_NoRoom T) hr T.bi_NoRoom (by rfl) T.gc_NoRoom (takes_of rfl rfl rfl rfl) (pv 3)))
      pss_nil)
    (pss_cons (ps_set (i := 8) sc_pooled_holds.nd rfl (Or.inl rfl) (pe_call (G_with_kind) hr (by rfl) T.g_with_kind T.k_with_kind T.b_with_kind .nil pass0 (pa_cons (pe_callS (G_without_hold) hr (by rfl) T.g_without_hold T.k_without_hold T.b_without_hold (fun σ => passAt (takes_of rfl rfl rfl rfl) σ) (pa_cons (pv 0) (pa_cons (pv 3) pa_nil))) (pa_cons (pv 2) (pa_cons (pe_call (G_pooled) hr (by rfl) T.g_pooled T.k_pooled T.b_pooled .nil pass0 (pa_cons (pv 4) (pa_cons (pv 6) pa_nil))) pa_nil)))))
    (pss_one (ps_ret (pe_tupN (pa_cons (pv 8) (pa_cons (pe_call (G_moved) hr (by rfl) T.g_moved T.k_moved T.b_moved .nil pass0 (pa_cons (pv 1) (pa_cons pe_int (pa_cons pe_int (pa_cons (pe_disp (pps_cons (pv 3) (pv 2) pps_nil) (by rfl) (by rfl) (fun z => by cases z) (by decide)) pa_nil))))) pa_nil))))))))), ?_⟩
  refine ⟨_, rfl, _, rfl, v, c, x, rfl, hv, fun g erow H1 p1 y1 z1 s1 hp1 hy1 hz1 => ?_, fun e => ?_⟩
  rotate_left
  · unfold poolA at q
    rw [e] at q
    exact q
  refine ⟨p1, _, rfl, hp1, rfl, _, _, rfl, _, _, rfl, rfl, ?_⟩
  refine ⟨_, rfl, _, rfl, v, c, y, rfl, Dp.sm s1 _ _ hv, fun h erow2 H2 p2 y2 z2 s2 hp2 hy2 hz2 => ?_, fun e => ?_⟩
  rotate_left
  · unfold poolA at q
    rw [erow, e] at q
    exact Out.sm s1 q
  refine ⟨p2, _, rfl, hp2, rfl, _, _, rfl, _, _, rfl, rfl, ?_⟩
  have s12 := s1.trans s2
  have q' : Told K T.c_UnknownName T.c_NoRoom H Q E (match (if x = y ∨ g.sn ≠ h.sn then none else g.kd.plus h.kd) with
    | none => .room y
    | some k => .told (pairD (c.pool x y k) (t.mv 0 0 (ren1 y (.inr x))))) := by
    unfold poolA Clm.joint at q
    rw [erow, erow2] at q
    exact q
  clear q
  have okg := ok.all g (row_mem erow).1
  have okh := ok.all h (row_mem erow2).1
  refine ⟨_, rfl, _, rfl, rfl, _, rfl, iteB (fun c1 => ?_) fun c1 => ?_⟩
  · have e : x = y := V.str.inj (of_decide_eq_true c1)
    rw [if_pos (.inl e)] at q'
    exact ⟨_, rfl, Out.sm s12 q'⟩
  have ne : ¬ x = y := fun z => of_decide_eq_false c1 (by rw [z])
  refine ⟨_, rfl, _, rfl, g.sn.d, h.sn.d, Dp.sm s2 _ _ hz1, hz2, okg.1.sh, okh.1.sh, _, rfl, ?_⟩
  rw [sn_eqv]
  refine iteB (fun c2 => ?_) fun c2 => ?_
  · have e : g.sn ≠ h.sn := fun z => by
      rw [decide_eq_true z] at c2
      cases c2
    rw [if_pos (.inr e)] at q'
    exact ⟨_, rfl, Out.sm s12 q'⟩
  have es : ¬ g.sn ≠ h.sn := fun z => by
    rw [decide_eq_false z] at c2
    cases c2
  rw [if_neg fun z => z.elim ne es] at q'
  refine ⟨_, rfl, _, rfl, (by show 2 ≤ 1000; decide), fun H3 p3 s3 n3 h3 => ?_⟩
  refine ⟨.str "once", [g.kd.d, h.kd.d], .str _, .tup (SqT.of h3) (.cons (Dp.sm (s2.trans s3) _ _ hy1) (.cons (Dp.sm s3 _ _ hy2) .nil)), shaped_once, shaped_two _ _, _, rfl, ?_⟩
  rw [once_in]
  have s13 := s12.trans s3
  cases ep : g.kd.plus h.kd with
  | none =>
    rw [ep] at q'
    exact iteT ⟨_, rfl, Out.sm s13 q'⟩
  | some kd =>
    rw [ep] at q'
    have q2 : ∀ H' r, Same H H' → Dp K H' r (pairD (c.pool x y kd) (t.mv 0 0 (ren1 y (.inr x)))) → Q r H' := q'
    refine iteF ?_
    refine ⟨_, rfl, _, rfl, v, c, y, rfl, Dp.sm s13 _ _ hv, ok.few, fun _ H4 r4 b4 u4 xs4 s4 hr4 hb4 hx4 hu4 => ?_, fun e => by rw [erow2] at e; cases e⟩
    refine ⟨_, rfl, _, rfl, _, rfl, y1, y2, g.kd, h.kd, kd, rfl, Dp.sm ((s2.trans s3).trans s4) _ _ hy1, Dp.sm (s3.trans s4) _ _ hy2, ep, fun H5 r5 s5 hr5 => ?_⟩
    refine ⟨_, r5, ⟨c.without y, c.goal⟩, x, kd, rfl, Dp.sm s5 _ _ (clm_mk hr4 hb4 hx4 hu4), hr5, Nat.le_trans (List.length_filter_le _ _) ok.few, fun H6 r6 s6 hr6 => ?_⟩
    have s16 := ((s13.trans s4).trans s5).trans s6
    refine ⟨_, rfl, _, rfl, fun D nD => ⟨_, rfl, _, rfl, upd_same, [(.inr y, .str x)], rfl, (by show 1 ≤ 15; decide), ?_⟩⟩
    rw [upd_upd]
    have s7 : Same H6 (upd H6 D (.dK [(.inr y, .str x)])) := Same.new nD
    refine ⟨u, t, 0, 0, D, ren1 y (.inr x), rfl, Dp.sm (s16.trans s7) _ _ hu, ht, upd_same, fun H8 r8 s8 hr8 => ⟨(by show 2 ≤ 1000; decide), fun H9 r9 s9 n9 h9 => ?_⟩⟩
    exact q2 H9 _ ((s16.trans s7).trans (s8.trans s9)) (.tup (SqT.of h9) (.cons (Dp.sm (s7.trans (s8.trans s9)) _ _ hr6) (.cons (Dp.sm s9 _ _ hr8) .nil)))
def spLeastKinds (K : PySem.W.Frag) (n : Nat) : Sp := fun vs H Q _ => ∃ (v u : V) (c : Clm) (t : Row), vs = [v, u] ∧ Dp K H v c.d ∧ Dp K H u t.d ∧ t.ht ≤ n ∧ t.ok ∧ t.sz ≤ 2000 ∧ c.hs.length ≤ 30 ∧
  ∀ H' r, Same H H' → Dp K H' r (c.fit (t.cnt 0)).d → Q r H'
theorem ok_least_kinds (T : Tx K w mg) {n : Nat} : FnOk P w K mg base CX0 (n + 6) T.a_least_kinds T.d_least_kinds ["claim", "derivation"] (spLeastKinds K n) := by
  have G_counts := ok_counts (P := P) (base := base) T n
  refine T.F_least_kinds.ok sc_least_kinds (fun vs H Q E h => ?_) (fun cdv A outer s H vs Q E hr h => ?_)
  · obtain ⟨v, u, c, t, rfl, _⟩ := h
    rfl
  obtain ⟨v, u, c, t, rfl, hv, hu, ht, hok, hz, few, q⟩ := h
  refine ⟨_, (pss_cons (ps_set (i := 2) sc_least_kinds.nd rfl (Or.inl rfl) (pe_call (G_counts) hr (by rfl) T.g_counts T.k_counts T.bd_counts T.vd_counts pass0 (pa_cons (pv 1) pa_nil)))
    (pss_cons (ps_set (i := 3) sc_least_kinds.nd rfl (Or.inl rfl) (pe_lstN pa_nil))
    (pss_cons (ps_for PassesOwn.never rfl (pi_tup (pe_ix ix_tup (pv 0) pe_int (fun _ _ => rfl))) (pg_tup (by rfl) (pgs_cons (pg_name (i := 4) sc_least_kinds.nd rfl (Or.inl rfl)) (pgs_cons (pg_name (i := 5) sc_least_kinds.nd rfl (Or.inl rfl)) (pgs_cons (pg_name (i := 6) sc_least_kinds.nd rfl (Or.inl rfl)) pgs_nil))))
      (pss_one (ps_if (pt_cmpR (op_eqD hr.units) (pv 5) pe_str (nomark _))
        (pss_one (ps_expr (pe_bm PySem.F.plainAttrs_list PySem.F.slot_list_append PySem.F.type_list_append mt_append (pv 3) (pa_cons (pe_tupN (pa_cons (pv 4) (pa_cons (pv 5) (pa_cons (pv 6) pa_nil)))) pa_nil))))
        (pss_one (ps_if (pt_cmp (pc_din (hu_of hr) (pv 4) (pv 2)))
          (pss_one (ps_expr (pe_bm PySem.F.plainAttrs_list PySem.F.slot_list_append PySem.F.type_list_append mt_append (pv 3) (pa_cons (pe_tupN (pa_cons (pv 4) (pa_cons (pe_tupN (pa_cons (pe_fld (pe_dget (hu_of hr) (pv 2) (pv 4) (fun _ _ => rfl)) rfl) (pa_cons (pe_fld (pe_dget (hu_of hr) (pv 2) (pv 4) (fun _ _ => rfl)) rfl) pa_nil))) (pa_cons (pv 6) pa_nil)))) pa_nil))))
          pss_nil)))))
    (pss_one (ps_ret (pe_tupN (pa_cons (pe_callTy call_tupleN (by rfl) T.z_tuple (by decide +kernel) (pa_cons (pv 3) pa_nil)) (pa_cons (pe_ix ix_tup (pv 0) pe_int (fun _ _ => rfl)) pa_nil)))))))), ?_⟩
  refine ⟨_, rfl, u, t, 0, rfl, hu, ht, hok, hz, fun H1 F s1 nF cd => ?_⟩
  obtain ⟨a, b, g, xs, rfl, ha, hb, hx, hg⟩ := clm_at (Dp.sm s1 _ _ hv)
  have lx := hx.len
  rw [List.length_map] at lx
  refine ⟨Nat.zero_le _, fun H2 L s2 nL hL => ?_⟩
  obtain ⟨kvs, hF, nd, rel⟩ := cd.sm s2
  have LF : F ≠ L := ne_of hF hL (by intro z; cases z)
  refine ⟨_, rfl, a, _, 0, .ref b, rfl, rfl, s2.seqT ha, atI_at (j := 0) rfl rfl, b, rfl, ⟨_, s2.seqT hb⟩, ?_⟩
  refine for_tup (xs := xs) (fun i σ' H' => ∃ (y1 y2 y3 : Option V) (ws : List V), σ' = [some (.ref a), some u, some (.ref F), some (.ref L), y1, y2, y3] ∧ Kp [L] H2 H' ∧ H' L = some (.lst ws) ∧ DpAll K H' ws (((c.hs.take i).filterMap (fitH (t.cnt 0))).map Hold.d))
    ⟨none, none, none, [], rfl, Kp.refl _, hL, .nil⟩ ?_ ?_ ?_
  · rintro i σ' H' _ ⟨_, _, _, _, _, k', _, _⟩
    exact k'.seqT (Lsts.one hL) (s2.seqT hb)
  · rintro i z σ' H' hi ⟨y1, y2, y3, ws, rfl, k', hL', hw⟩
    obtain ⟨h, hh, hz⟩ := hold_get hx hi
    have hz' := Dp.kp k' (Lsts.one hL) _ _ h.tu (Dp.sm s2 _ _ hz)
    obtain ⟨p, yk, s, rfl, hp, hy, hs⟩ := hold_at hz'
    have et : (c.hs.take (i + 1)) = c.hs.take i ++ [h] := by rw [List.take_add_one, hh]; rfl
    have lw := hw.len
    have lf := List.length_filterMap_le (fitH (t.cnt 0)) (c.hs.take i)
    rw [List.length_take] at lf
    rw [List.length_map] at lw
    refine ⟨p, _, rfl, hp, rfl, _, _, rfl, _, _, rfl, _, _, rfl, rfl, ?_⟩
    refine ⟨_, rfl, h.kd.d, .str "once", hy, .str _, shaped_kd _, shaped_once, _, rfl, ?_⟩
    rw [eqv_once]
    refine iteB (fun c1 => ?_) fun c1 => ?_
    · have e : h.kd = .once := of_decide_eq_true c1
      refine ⟨_, rfl, .inl ⟨rfl, _, SqL.of hL'⟩, _, rfl, _, rfl, _, rfl, (by show 3 ≤ 1000; decide), fun H3 r s3 nr hr3 => ?_⟩
      have hL3 := s3 _ _ hL'
      refine ⟨L, ws, _, rfl, rfl, hL3, sz_lt (by omega), ?_⟩
      refine ⟨_, _, _, _, rfl, (k'.trans (Kp.of s3)).trans (Kp.wr (.head _)), upd_same, ?_⟩
      rw [et, List.filterMap_append, List.map_append, show List.filterMap (fitH (t.cnt 0)) [h] = [h] by
        rw [List.filterMap_cons, show fitH (t.cnt 0) h = some h by unfold fitH; rw [e]]; rfl]
      exact grown hL3 (Dp.smAll s3 _ _ hw) (.tup (SqT.of hr3) (.cons (.str _) (.cons (Dp.sm s3 _ _ hy) (.cons (Dp.sm s3 _ _ hs) .nil)))) (holds_tu _) (Hold.tu _)
    · have e : ¬ h.kd = .once := of_decide_eq_false c1
      have ef : fitH (t.cnt 0) h = (t.cnt 0 (.inr h.nm)).map fun t => ⟨h.nm, .st t.2.1 t.2.2, h.sn⟩ := by
        unfold fitH
        cases ek : h.kd with
        | once => exact absurd ek e
        | st n k => rfl
      have hF' : H' F = some (.dK kvs) := k' _ _ (lone LF) hF
      have d0 : DGet H' F (kV (.inr h.nm)) (valV kvs (.inr h.nm)) := DGet.k (k := .inr h.nm) hF'
      have r0 := rel (.inr h.nm)
      refine ⟨_, rfl, _, rfl, F, _, rfl, d0, _, rfl, ?_⟩
      cases ec : t.cnt 0 (.inr h.nm) with
      | none =>
        rw [ec] at r0 ef
        rw [orel_none r0]
        refine iteF ⟨_, _, _, _, rfl, k', hL', ?_⟩
        rw [et, List.filterMap_append, show List.filterMap (fitH (t.cnt 0)) [h] = [] by
          rw [List.filterMap_cons, show fitH (t.cnt 0) h = none from ef]; rfl, List.append_nil]
        exact hw
      | some t3 =>
        rw [ec] at r0 ef
        obtain ⟨vc, evc, cc⟩ := orel_some r0
        rw [evc] at d0 ⊢
        obtain ⟨ac, dc, rfl, hc⟩ := cc.kl hL k'
        refine iteT ?_
        refine ⟨_, rfl, .inl ⟨rfl, _, SqL.of hL'⟩, _, rfl, _, rfl, _, rfl, F, _, rfl, d0, ac, _, dc, _, _, rfl, hc, T.cl_Count, T.n_most, cf_most t3,
          _, rfl, _, rfl, F, _, rfl, d0, ac, _, dc, _, _, rfl, hc, T.cl_Count, T.n_days, cf_days t3, (by show 2 ≤ 1000; decide), fun H3 r3 s3 n3 hr3 => ⟨_, rfl, (by show 3 ≤ 1000; decide), fun H4 r4 s4 n4 hr4 => ?_⟩⟩
        have hL4 := s4 _ _ (s3 _ _ hL')
        refine ⟨L, ws, _, rfl, rfl, hL4, sz_lt (by omega), ?_⟩
        refine ⟨_, _, _, _, rfl, (k'.trans (Kp.of (s3.trans s4))).trans (Kp.wr (.head _)), upd_same, ?_⟩
        rw [et, List.filterMap_append, List.map_append, show List.filterMap (fitH (t.cnt 0)) [h] = [⟨h.nm, .st t3.2.1 t3.2.2, h.sn⟩] by
          rw [List.filterMap_cons, show fitH (t.cnt 0) h = _ from ef]; rfl]
        exact grown hL4 (Dp.smAll (s3.trans s4) _ _ hw) (.tup (SqT.of hr4) (.cons (.str _) (.cons (.tup (s4.seqT (SqT.of hr3)) (.cons (.int _) (.cons (.int _) .nil))) (.cons (Dp.sm (s3.trans s4) _ _ hs) .nil)))) (holds_tu _) (Hold.tu _)
  · rintro σ' H' ⟨y1, y2, y3, ws, rfl, k', hL', hw⟩
    rw [lx, List.take_length] at hw
    refine ⟨_, rfl, L, ws, rfl, .inl (SqL.of hL'), fun H3 t3 s3 ht3 => ?_⟩
    have ha' := s3.seqT (k'.seqT (Lsts.one hL) (s2.seqT ha))
    refine ⟨_, rfl, a, _, 1, g, rfl, rfl, ha', atI_at (j := 1) rfl rfl, (by show 2 ≤ 1000; decide), fun H4 r s4 nr hr4 => ?_⟩
    refine q H4 _ (((Same.kp (s1.trans s2) k' (s1.free nL)).trans s3).trans s4) (clm_mk (SqT.of hr4) (s4.seqT ht3) (Dp.smAll (s3.trans s4) _ _ hw) ?_)
    exact Dp.sm (s3.trans s4) _ _ (Dp.kp k' (Lsts.one hL) _ _ (Sn.tu _) (Dp.sm s2 _ _ hg))
def spAbst (K : PySem.W.Frag) (C1 C2 : Addr) (n : Nat) : Sp := fun vs H Q E => ∃ (v u : V) (c : Clm) (t : Row) (x : Str), vs = [v, u, .str x] ∧ Dp K H v c.d ∧ Dp K H u t.d ∧ t.ht ≤ n ∧ c.ok ∧ Told K C1 C2 H Q E (liftA c t x)
theorem ok_abstracted (T : Tx K w mg) {k : Nat} : FnOk P w K mg base (L2.CX P w) (k + 6) T.a_abstracted T.d_abstracted ["claim", "derivation", "name"] (spAbst K T.c_UnknownName T.c_NoRoom (k + 4)) := by
  have G_hold_of := ok_hold_of (P := P) (base := base) T (k := k + 2)
  have G_without_hold := ok_without_hold (P := P) (base := base) T (k := k + 1)
  have G_trade := ok_trade (P := P) (base := base) T (k := k + 2)
  have G_moved := ok_moved (P := P) (base := base) T (k + 4)
  refine T.F_abstracted.okX sc_abstracted (fun vs H Q E h => ?_) (fun cdv A outer s H vs Q E hr h => ?_)
  · obtain ⟨v, u, c, t, x, rfl, _⟩ := h
    rfl
  obtain ⟨v, u, c, t, x, rfl, hv, hu, ht, ok, q⟩ := h
  refine ⟨_, (pss_cons (ps_asg (pe_callS (G_hold_of) hr (by rfl) T.g_hold_of T.k_hold_of T.b_hold_of (fun σ => passAt (takes_of rfl rfl rfl rfl) σ) (pa_cons (pv 0) (pa_cons (pv 2) pa_nil))) (pg_tup (by rfl) (pgs_cons (pg_name (i := 3) sc_abstracted.nd rfl (Or.inl rfl)) (pgs_cons (pg_name (i := 4) sc_abstracted.nd rfl (Or.inl rfl)) pgs_nil))))
    (pss_cons (ps_set (i := 5) sc_abstracted.nd rfl (Or.inl rfl) (pe_ix ix_tup (pe_callS (G_without_hold) hr (by rfl) T.g_without_hold T.k_without_hold T.b_without_hold (fun σ => passAt (takes_of rfl rfl rfl rfl) σ) (pa_cons (pv 0) (pa_cons (pv 2) pa_nil))) pe_int (fun _ _ => rfl)))
    (pss_cons (ps_set (i := 6) sc_abstracted.nd rfl (Or.inl rfl) (pe_callN (G_trade) hr (by rfl) T.g_trade T.k_trade T.kb_trade pass0 (pa_cons (pv 4) (pa_cons (pe_ix ix_tup (pv 0) pe_int (fun _ _ => rfl)) pa_nil)) (pk_cons (pv 3) pk_nil)))
    (pss_one (ps_ret (pe_tupN (pa_cons (pe_tupN (pa_cons (pv 5) (pa_cons (pv 6) pa_nil))) (pa_cons (pe_tupN (pa_cons pe_str (pa_cons (pe_call (G_moved) hr (by rfl) T.g_moved T.k_moved T.b_moved .nil pass0 (pa_cons (pv 1) (pa_cons pe_int (pa_cons pe_int (pa_cons (pe_disp (pps_cons (pv 2) pe_int pps_nil) (by rfl) (by rfl) (fun z => by cases z) (by decide)) pa_nil))))) pa_nil))) pa_nil)))))))), ?_⟩
  refine ⟨_, rfl, _, rfl, v, c, x, rfl, hv, fun g erow H1 p1 y1 z1 s1 hp1 hy1 hz1 => ?_, fun e => ?_⟩
  rotate_left
  · unfold liftA at q
    rw [e] at q
    exact q
  refine ⟨p1, _, rfl, hp1, rfl, _, _, rfl, _, _, rfl, rfl, ?_⟩
  have q2 : ∀ H' r, Same H H' → Dp K H' r (pairD (c.lift x g) (liftR t x)) → Q r H' := by
    unfold liftA at q
    rw [erow] at q
    exact q
  have okg := ok.all g (row_mem erow).1
  refine ⟨_, rfl, _, rfl, v, c, x, rfl, Dp.sm s1 _ _ hv, ok.few, fun _ H4 r4 b4 u4 xs4 s4 hr4 hb4 hx4 hu4 => ?_, fun e => by rw [erow] at e; cases e⟩
  refine ⟨r4, _, 0, .ref b4, rfl, rfl, hr4, atI_at (j := 0) rfl rfl, ?_⟩
  have s14 := s1.trans s4
  obtain ⟨a, b, u', xs, rfl, ha, hb, hx, hg⟩ := clm_at (Dp.sm s14 _ _ hv)
  refine ⟨_, rfl, _, rfl, a, _, 1, u', rfl, rfl, ha, atI_at (j := 1) rfl rfl, _, rfl, rfl, rfl, z1, u', y1, g.sn, c.goal, g.kd, rfl, Dp.sm s4 _ _ hz1, hg, Dp.sm s4 _ _ hy1, okg.2, fun H5 r5 s5 hr5 => ?_⟩
  have s15 := s14.trans s5
  refine ⟨_, rfl, _, rfl, (by show 2 ≤ 1000; decide), fun H6 r6 s6 n6 h6 => ?_⟩
  have s16 := s15.trans s6
  refine ⟨_, rfl, fun D nD => ⟨_, rfl, upd_same, [(.inr x, .int 0)], rfl, (by show 1 ≤ 15; decide), ?_⟩⟩
  rw [upd_upd]
  have s7 : Same H6 (upd H6 D (.dK [(.inr x, .int 0)])) := Same.new nD
  refine ⟨u, t, 0, 1, D, ren1 x (.inl 0), rfl, Dp.sm (s16.trans s7) _ _ hu, ht, upd_same, fun H8 r8 s8 hr8 => ⟨(by show 2 ≤ 1000; decide), fun H9 r9 s9 n9 h9 => ⟨(by show 2 ≤ 1000; decide), fun H10 r10 s10 n10 h10 => ?_⟩⟩⟩
  have s6z := (s7.trans s8).trans (s9.trans s10)
  have s5z := s6.trans s6z
  refine q2 H10 _ (s16.trans s6z) (.tup (SqT.of h10) (.cons (.tup (s6z.seqT (SqT.of h6)) (.cons (.tup ((s5.trans s5z).seqT hb4) (Dp.smAll (s5.trans s5z) _ _ hx4)) (.cons (Dp.sm s5z _ _ hr5) .nil))) (.cons (.tup (s10.seqT (SqT.of h9)) (.cons (.str _) (.cons (Dp.sm (s9.trans s10) _ _ hr8) .nil))) .nil)))
end
end HA

/-! What the law draws: sentences, kinds, references. -/
namespace HA
open PySem PySem.Spec PyProof.Rows L2 HX
theorem Pool.nt {H : Hp} {l : Addr} (p : Pool H l) : NT [l] H := fun b m o e => by
  obtain ⟨x, y, z, h, _⟩ := p
  rw [List.mem_singleton.mp m, h] at e
  cases e
  exact ⟨fun xs z => (by cases z), fun ob xs z => (by cases z)⟩
theorem NT.cons {S : List Addr} {H : Hp} {D : Addr} {kvs : List (Key × V)} (h : H D = some (.dK kvs)) (n : NT S H) : NT (D :: S) H := fun b m o e => by
  rcases List.mem_cons.mp m with rfl | m
  · rw [h] at e
    cases e
    exact ⟨fun xs z => (by cases z), fun ob xs z => (by cases z)⟩
  · exact n b m o e
/-- the dict that holds what is drawn from, as a function -/
structure Sta (H : Hp) (S l W : Addr) (words : List Str) (F : Key → Option V) : Prop where
  dict : ∃ kvs, H S = some (.dK kvs) ∧ (∀ k, valV kvs k = F k) ∧ kvs.length ≤ 20
  fp : F (.inr "pool") = some (.ref l)
  ff : F (.inr "forms") = some (.str "ms")
  fw : F (.inr "words") = some (.ref W)
  hw : H W = some (.lst (words.map V.str))
  pool : Pool H l
  ok : ∀ x ∈ words, NameOk x
  n0 : 0 < words.length
  nz : words.length ≤ 1000
  wl : W ≠ l
namespace Sta
variable {H H' : Hp} {S l W : Addr} {words : List Str} {F : Key → Option V}
theorem sl (st : Sta H S l W words F) : S ≠ l := by
  obtain ⟨kvs, h, _⟩ := st.dict
  obtain ⟨a, b, c, e, _⟩ := st.pool
  exact ne_of h e fun z => by cases z
theorem kp (st : Sta H S l W words F) (k : Kp [l] H H') (p : Pool H' l) : Sta H' S l W words F := by
  obtain ⟨kvs, h, f, z⟩ := st.dict
  exact ⟨⟨kvs, k _ _ (lone st.sl) h, f, z⟩, st.fp, st.ff, st.fw, k _ _ (lone st.wl) st.hw, p, st.ok, st.n0, st.nz, st.wl⟩
theorem sm (st : Sta H S l W words F) (s : Same H H') : Sta H' S l W words F := st.kp (Kp.of s) (st.pool.kp (S := []) (by simp) (Kp.of s))
theorem get (st : Sta H S l W words F) (k : Key) : DGet H S (kV k) (F k) := by
  obtain ⟨kvs, h, f, _⟩ := st.dict
  rw [← f k]
  exact DGet.k h
theorem gPool (st : Sta H S l W words F) : DGet H S (.str "pool") (some (.ref l)) := by have := st.get (.inr "pool"); rwa [st.fp] at this
theorem gForms (st : Sta H S l W words F) : DGet H S (.str "forms") (some (.str "ms")) := by have := st.get (.inr "forms"); rwa [st.ff] at this
theorem gWords (st : Sta H S l W words F) : DGet H S (.str "words") (some (.ref W)) := by have := st.get (.inr "words"); rwa [st.fw] at this
end Sta
theorem draw_at {l : List Str} {d : Int} (h0 : 0 ≤ d) (h1 : d < ((l.map V.str).length : Nat)) : ∃ x ∈ l, atI (l.map V.str) d = some (.str x) := by
  obtain ⟨i, rfl⟩ := Int.eq_ofNat_of_zero_le h0
  rw [List.length_map] at h1
  have hi : i < l.length := by omega
  refine ⟨l[i], List.getElem_mem hi, atI_nat ?_⟩
  rw [List.getElem?_map, List.getElem?_eq_getElem hi]
  rfl
section
variable {P : Program} {w : World} {K : PySem.W.Frag} {mg : Str → Option Value} {base : Heap}
def spCalled : Sp := fun vs H Q _ => ∃ (S l W : Addr) (words : List Str) (F : Key → Option V), vs = [.ref S] ∧ Sta H S l W words F ∧ ∀ x H', Kp [l] H H' → Pool H' l → Q (.str x) H'
theorem ok_called (T : Tx K w mg) {k : Nat} : FnOk P w K mg base CX0 (k + 2) T.a__law_called T.d__law_called ["state"] spCalled := by
  have G__law_next := ok_next (P := P) (base := base) T (k := k)
  refine T.F__law_called.ok sc__law_called (fun vs H Q E h => ?_) (fun cdv A outer s H vs Q E hr h => ?_)
  · obtain ⟨S, l, W, words, F, rfl, _⟩ := h
    rfl
  obtain ⟨S, l, W, words, F, rfl, st, q⟩ := h
  have nz := st.nz
  have n0 := st.n0
  refine ⟨_, (pss_one (ps_ret (pe_ix ix_list (pe_dget (hu_of hr) (pv 0) pe_str (fun _ _ => rfl)) (pe_call (G__law_next) hr (by rfl) T.g__law_next T.k__law_next T.b__law_next .nil pass0 (pa_cons (pe_dget (hu_of hr) (pv 0) pe_str (fun _ _ => rfl)) (pa_cons (pe_callB call_len_seq (by rfl) T.z_len (by decide +kernel) (pa_cons (pe_dget (hu_of hr) (pv 0) pe_str (fun _ _ => rfl)) pa_nil)) pa_nil))) (fun _ _ => rfl)))), ?_⟩
  refine ⟨_, rfl, S, .ref W, rfl, st.gWords, _, rfl, S, .ref l, rfl, st.gPool, _, rfl, S, .ref W, rfl, st.gWords, W, _, rfl, .inl (SqL.of st.hw), l, _, rfl, st.pool, by rw [List.length_map]; omega, by rw [List.length_map]; omega, fun d H1 d0 d1 k1 p1 => ?_⟩
  obtain ⟨x, _, hx⟩ := draw_at d0 d1
  exact ⟨W, _, d, .str x, rfl, rfl, SqL.of (st.kp k1 p1).hw, hx, q _ _ k1 p1⟩
/-- a kind that has room -/
def KdIn (room : Int) : Kd → Prop
  | .once => True
  | .st n k => 1 ≤ n ∧ n ≤ room ∧ 0 ≤ k ∧ k ≤ 100
theorem KdIn.ok {room : Int} {k : Kd} (h : KdIn room k) (r : room ≤ 1000) : k.ok := by
  cases k with
  | once => trivial
  | st n k =>
    obtain ⟨h1, h2, h3, h4⟩ := h
    exact ⟨h1, by omega, h3, by omega⟩
def spMode (K : PySem.W.Frag) : Sp := fun vs H Q _ => ∃ (l : Addr) (room : Int), vs = [.ref l, .int room] ∧ Pool H l ∧ 1 ≤ room ∧ room ≤ 1000 ∧
  ∀ v k H', KdIn room k → Dp K H' v k.d → Kp [l] H H' → Pool H' l → Q v H'
theorem ok_mode (T : Tx K w mg) {k : Nat} : FnOk P w K mg base CX0 (k + 2) T.a__law_mode T.d__law_mode ["pool", "room"] (spMode K) := by
  have G__law_next := ok_next (P := P) (base := base) T (k := k)
  refine T.F__law_mode.ok sc__law_mode (fun vs H Q E h => ?_) (fun cdv A outer s H vs Q E hr h => ?_)
  · obtain ⟨l, room, rfl, _⟩ := h
    rfl
  obtain ⟨l, room, rfl, hp, h1, h2, q⟩ := h
  refine ⟨_, (pss_cons (ps_set (i := 2) sc__law_mode.nd rfl (Or.inl rfl) (pe_call (G__law_next) hr (by rfl) T.g__law_next T.k__law_next T.b__law_next .nil pass0 (pa_cons (pv 0) (pa_cons pe_int pa_nil))))
    (pss_cons (ps_if (pt_cmpR op_lt (pv 2) pe_int (nomark _))
      (pss_one (ps_ret pe_str))
      pss_nil)
    (pss_cons (ps_if (pt_cmpR op_eq (pv 2) pe_int (nomark _))
      (pss_one (ps_ret (pe_tupN (pa_cons (pe_op op_add pe_int (pe_call (G__law_next) hr (by rfl) T.g__law_next T.k__law_next T.b__law_next .nil pass0 (pa_cons (pv 0) (pa_cons (pv 1) pa_nil)))) (pa_cons (pe_call (G__law_next) hr (by rfl) T.g__law_next T.k__law_next T.b__law_next .nil pass0 (pa_cons (pv 0) (pa_cons pe_int pa_nil))) pa_nil)))))
      pss_nil)
    (pss_one (ps_ret (pe_tupN (pa_cons (pe_callB (call_min2 rfl) (by rfl) T.z_min (by decide +kernel) (pa_cons (pv 1) (pa_cons (pe_op op_add pe_int (pe_call (G__law_next) hr (by rfl) T.g__law_next T.k__law_next T.b__law_next .nil pass0 (pa_cons (pv 0) (pa_cons pe_int pa_nil)))) pa_nil))) (pa_cons (pe_call (G__law_next) hr (by rfl) T.g__law_next T.k__law_next T.b__law_next .nil pass0 (pa_cons (pv 0) (pa_cons pe_int pa_nil))) pa_nil)))))))), ?_⟩
  refine ⟨_, rfl, l, 8, rfl, hp, by decide, by decide, fun d H1 d0 d1 k1 p1 => ?_⟩
  refine ⟨_, rfl, _, _, rfl, rfl, _, rfl, iteB (fun _ => ?_) fun _ => ?_⟩
  · exact q _ .once H1 trivial (.str _) k1 p1
  refine ⟨_, rfl, rfl, _, rfl, iteB (fun _ => ?_) fun _ => ?_⟩
  · refine ⟨_, rfl, _, rfl, l, room, rfl, p1, by omega, by omega, fun f H2 f0 f1 k2 p2 => ⟨_, _, rfl, rfl, ?_⟩⟩
    refine ⟨_, rfl, l, 101, rfl, p2, by decide, by decide, fun g H3 g0 g1 k3 p3 => ⟨(by show 2 ≤ 1000; decide), fun H4 c s4 nc hc => ?_⟩⟩
    exact q _ (.st (1 + f) g) H4 ⟨by omega, by omega, g0, by omega⟩ (.tup (SqT.of hc) (.cons (.int _) (.cons (.int _) .nil))) (((k1.trans k2).trans k3).trans (Kp.of s4)) (p3.kp (S := []) (by simp) (Kp.of s4))
  · refine ⟨_, rfl, _, rfl, l, 4, rfl, p1, by decide, by decide, fun f H2 f0 f1 k2 p2 => ⟨_, _, rfl, rfl, room, 1 + f, rfl, ?_⟩⟩
    have mm : 1 ≤ (if 1 + f < room then 1 + f else room) ∧ (if 1 + f < room then 1 + f else room) ≤ room := by split <;> omega
    revert mm
    generalize (if 1 + f < room then 1 + f else room) = r
    rintro ⟨r1, r2⟩
    refine ⟨_, rfl, l, 4, rfl, p2, by decide, by decide, fun g H3 g0 g1 k3 p3 => ⟨(by show 2 ≤ 1000; decide), fun H4 c s4 nc hc => ?_⟩⟩
    exact q _ (.st r g) H4 ⟨by omega, by omega, g0, by omega⟩ (.tup (SqT.of hc) (.cons (.int _) (.cons (.int _) .nil))) (((k1.trans k2).trans k3).trans (Kp.of s4)) (p3.kp (S := []) (by simp) (Kp.of s4))
def spSent (K : PySem.W.Frag) (N : Nat) : Sp := fun vs H Q _ => ∃ (S l W : Addr) (words : List Str) (F : Key → Option V) (dep : Nat), vs = [.ref S, .int (dep : Int)] ∧ dep < N ∧ Sta H S l W words F ∧
  ∀ v s H', Dp K H' v (Sn.d s) → s.d.canLay0 = true → s.d.depth ≤ dep + 1 → Kp [l] H H' → Pool H' l → Q v H'
theorem m_in (c : Bool) {A B : Prop} (a : A) (b : B) : if c = true then A else B := by cases c; exact b; exact a
theorem sent_step (T : Tx K w mg) {N : Nat} (G__law_sentence : FnOk P w K mg base CX0 (N + 1) T.a__law_sentence T.d__law_sentence ["state", "depth"] (spSent K N)) :
    FnOk P w K mg base CX0 (N + 2) T.a__law_sentence T.d__law_sentence ["state", "depth"] (spSent K (N + 1)) := by
  have G__law_next := ok_next (P := P) (base := base) T (k := N)
  refine T.F__law_sentence.ok sc__law_sentence (fun vs H Q E h => ?_) (fun cdv A outer s H vs Q E hr h => ?_)
  · obtain ⟨S, l, W, words, F, dep, rfl, _⟩ := h
    rfl
  obtain ⟨S, l, W, words, F, dep, rfl, hd, st, q⟩ := h
  refine ⟨_, (pss_cons (ps_set (i := 2) sc__law_sentence.nd rfl (Or.inl rfl) (pe_dget (hu_of hr) (pv 0) pe_str (fun _ _ => rfl)))
    (pss_cons (ps_set (i := 3) sc__law_sentence.nd rfl (Or.inl rfl) (pe_call (G__law_next) hr (by rfl) T.g__law_next T.k__law_next T.b__law_next .nil pass0 (pa_cons (pv 2) (pa_cons pe_int pa_nil))))
    (pss_cons (ps_if (PW.pt (pw_or (pt_cmpR op_le (pv 1) pe_int (nomark _)) (pw_or1 (pt_cmpR op_lt (pv 3) pe_int (nomark _)))))
      (pss_one (ps_ret (pe_tupN (pa_cons pe_str (pa_cons (pe_ix ix_list (pe_dget (hu_of hr) (pv 0) pe_str (fun _ _ => rfl)) (pe_call (G__law_next) hr (by rfl) T.g__law_next T.k__law_next T.b__law_next .nil pass0 (pa_cons (pv 2) (pa_cons (pe_callB call_len_seq (by rfl) T.z_len (by decide +kernel) (pa_cons (pe_dget (hu_of hr) (pv 0) pe_str (fun _ _ => rfl)) pa_nil)) pa_nil))) (fun _ _ => rfl)) pa_nil)))))
      pss_nil)
    (pss_cons (ps_set (i := 4) sc__law_sentence.nd rfl (Or.inl rfl) (pe_call (G__law_sentence) hr (by rfl) T.g__law_sentence T.k__law_sentence T.b__law_sentence .nil pass0 (pa_cons (pv 0) (pa_cons (pe_op op_sub (pv 1) pe_int) pa_nil))))
    (pss_cons (ps_set (i := 5) sc__law_sentence.nd rfl (Or.inl rfl) (pe_call (G__law_sentence) hr (by rfl) T.g__law_sentence T.k__law_sentence T.b__law_sentence .nil pass0 (pa_cons (pv 0) (pa_cons (pe_op op_sub (pv 1) pe_int) pa_nil))))
    (pss_cons (ps_if (PW.pt (pw_and (pt_cmpR op_lt (pv 3) pe_int (nomark _)) (pw_and1 (pt_cmpR op_in_str pe_str (pe_dget (hu_of hr) (pv 0) pe_str (fun _ _ => rfl)) (by rfl)))))
      (pss_one (ps_ret (pe_tupN (pa_cons pe_str (pa_cons (pv 4) (pa_cons (pv 5) pa_nil))))))
      pss_nil)
    (pss_cons (ps_if (PW.pt (pw_and (pt_cmpR op_eq (pv 3) pe_int (nomark _)) (pw_and1 (pt_cmpR op_in_str pe_str (pe_dget (hu_of hr) (pv 0) pe_str (fun _ _ => rfl)) (by rfl)))))
      (pss_one (ps_ret (pe_tupN (pa_cons pe_str (pa_cons (pe_tupN (pa_cons (pe_op op_add pe_int (pe_call (G__law_next) hr (by rfl) T.g__law_next T.k__law_next T.b__law_next .nil pass0 (pa_cons (pv 2) (pa_cons pe_int pa_nil)))) (pa_cons (pe_call (G__law_next) hr (by rfl) T.g__law_next T.k__law_next T.b__law_next .nil pass0 (pa_cons (pv 2) (pa_cons pe_int pa_nil))) pa_nil))) (pa_cons (pv 4) (pa_cons (pv 5) pa_nil)))))))
      pss_nil)
    (pss_one (ps_ret (pe_tupN (pa_cons pe_str (pa_cons pe_str (pa_cons (pv 4) (pa_cons (pv 5) pa_nil)))))))))))))), ?_⟩
  refine ⟨_, rfl, S, .ref l, rfl, st.gPool, ?_⟩
  refine ⟨_, rfl, l, 8, rfl, st.pool, by decide, by decide, fun d H1 d0 d1 k1 p1 => ?_⟩
  have st1 := st.kp k1 p1
  have nz := st.nz
  have n0 := st.n0
  refine ⟨_, rfl, _, _, rfl, rfl, _, rfl, iteB (fun e1 => iteT ?_) fun e1 => ⟨_, rfl, _, _, rfl, rfl, _, rfl, iteB (fun e2 => ?_) fun e2 => ?_⟩⟩
  rotate_right
  · have e3 : 0 < dep := by
      have : ¬ ((dep : Int) ≤ 0) := of_decide_eq_false e1
      omega
    have e4 : (dep : Int) - 1 = ((dep - 1 : Nat) : Int) := by omega
    refine ⟨_, rfl, _, rfl, _, _, rfl, rfl, S, l, W, words, F, dep - 1, congrArg (fun z => [V.ref S, V.int z]) e4, by omega, st1, fun v1 s1 H2 a1 a2 a3 k2 p2 => ?_⟩
    have st2 := st1.kp k2 p2
    refine ⟨_, rfl, _, rfl, _, _, rfl, rfl, S, l, W, words, F, dep - 1, congrArg (fun z => [V.ref S, V.int z]) e4, by omega, st2, fun v2 s2 H3 b1 b2 b3 k3 p3 => ?_⟩
    have st3 := st2.kp k3 p3
    have a1' := Dp.kp k3 p2.lsts _ _ s1.tu a1
    have k13 : Kp [l] H H3 := (k1.trans k2).trans k3
    have once_way : tRet (tTupN (tCons (tC (.str "trade")) (tCons (tC (.str "once")) (tCons (tVar 4) (tCons (tVar 5) tNil))))) { nx := fun x H' => Q V.non H', rt := Q } [some (.ref S), some (.int (dep : Int)), some (.ref l), some (.int d), some v1, some v2] H3 := by
      refine ⟨_, rfl, _, rfl, (by show 4 ≤ 1000; decide), fun H5 c s5 nc hc => ?_⟩
      refine q _ (.trade .once s1 s2) H5 (.tup (SqT.of hc) (.cons (.str _) (.cons (.str _) (.cons (Dp.sm s5 _ _ a1') (.cons (Dp.sm s5 _ _ b1) .nil))))) ?_ ?_ (k13.trans (Kp.of s5)) (p3.kp (S := []) (by simp) (Kp.of s5))
      · show (PyData.strOk "trade" && (PyData.strOk "once" && (s1.d.canLay0 && (s2.d.canLay0 && true)))) = true
        rw [a2, b2]; decide +kernel
      · simp only [Sn.d, Kd.d, PyData.depth, PyData.depthAll]; omega
    have two_way : d = 7 → tRet (tTupN (tCons (tC (.str "trade")) (tCons (tTupN (tCons (tOp (rI0 fun i j => .int (i + j)) (tC (.int 1)) (tCall spNext [] E0 (tCons (tVar 2) (tCons (tC (.int 3)) tNil)))) (tCons (tCall spNext [] E0 (tCons (tVar 2) (tCons (tC (.int 3)) tNil))) tNil))) (tCons (tVar 4) (tCons (tVar 5) tNil))))) { nx := fun x H' => Q V.non H', rt := Q } [some (.ref S), some (.int (dep : Int)), some (.ref l), some (.int d), some v1, some v2] H3 := fun _ => by
      refine ⟨_, rfl, l, 3, rfl, p3, by decide, by decide, fun f H4 f0 f1 k4 p4 => ⟨_, _, rfl, rfl, _, rfl, l, 3, rfl, p4, by decide, by decide, fun g H5 g0 g1 k5 p5 => ⟨(by show 2 ≤ 1000; decide), fun H6 c s6 nc hc => ?_⟩⟩⟩
      refine ⟨_, rfl, _, rfl, (by show 4 ≤ 1000; decide), fun H7 c7 s7 n7 h7 => ?_⟩
      have k35 : Kp [l] H3 H5 := k4.trans k5
      have s67 := s6.trans s7
      refine q _ (.trade (.st (1 + f) g) s1 s2) H7 (.tup (SqT.of h7) (.cons (.str _) (.cons (.tup (s7.seqT (SqT.of hc)) (.cons (.int _) (.cons (.int _) .nil))) (.cons (Dp.sm s67 _ _ (Dp.kp k35 p3.lsts _ _ s1.tu a1')) (.cons (Dp.sm s67 _ _ (Dp.kp k35 p3.lsts _ _ s2.tu b1)) .nil))))) ?_ ?_
        ((k13.trans k35).trans (Kp.of s67)) (p5.kp (S := []) (by simp) (Kp.of s67))
      · show (PyData.strOk "trade" && (true && (s1.d.canLay0 && (s2.d.canLay0 && true)))) = true
        rw [a2, b2]; decide +kernel
      · simp only [Sn.d, Kd.d, PyData.depth, PyData.depthAll]; omega
    have menu_way : tRet (tTupN (tCons (tC (.str "menu")) (tCons (tVar 4) (tCons (tVar 5) tNil)))) { nx := fun x H' => Q V.non H', rt := Q } [some (.ref S), some (.int (dep : Int)), some (.ref l), some (.int d), some v1, some v2] H3 := by
      refine ⟨_, rfl, _, rfl, (by show 3 ≤ 1000; decide), fun H5 c s5 nc hc => ?_⟩
      refine q _ (.menu s1 s2) H5 (.tup (SqT.of hc) (.cons (.str _) (.cons (Dp.sm s5 _ _ a1') (.cons (Dp.sm s5 _ _ b1) .nil)))) ?_ ?_ (k13.trans (Kp.of s5)) (p3.kp (S := []) (by simp) (Kp.of s5))
      · show (PyData.strOk "menu" && (s1.d.canLay0 && (s2.d.canLay0 && true))) = true
        rw [a2, b2]; decide +kernel
      · simp only [Sn.d, PyData.depth, PyData.depthAll]; omega
    refine ⟨_, rfl, _, _, rfl, rfl, _, rfl, iteB (fun c1 => ?_) fun c1 => iteF ?_⟩
    · exact ⟨_, rfl, S, .str "ms", rfl, st3.gForms, "m", "ms", rfl, rfl, true, congrArg V.bl (by decide +kernel), iteT menu_way⟩
    · refine ⟨_, rfl, rfl, _, rfl, iteB (fun c2 => ?_) fun c2 => iteF once_way⟩
      have e7 : d = 7 := V.int.inj (of_decide_eq_true c2)
      exact ⟨_, rfl, S, .str "ms", rfl, st3.gForms, "s", "ms", rfl, rfl, true, congrArg V.bl (by decide +kernel), iteT (two_way e7)⟩
  all_goals
    refine ⟨_, rfl, S, .ref W, rfl, st1.gWords, _, rfl, _, rfl, S, .ref W, rfl, st1.gWords, W, _, rfl, .inl (SqL.of st1.hw), l, _, rfl, p1, by rw [List.length_map]; omega, by rw [List.length_map]; omega, fun e H2 e0 e1 k2 p2 => ?_⟩
    obtain ⟨x, hx, hat⟩ := draw_at e0 e1
    refine ⟨W, _, e, .str x, rfl, rfl, SqL.of (st1.kp k2 p2).hw, hat, (by show 2 ≤ 1000; decide), fun H3 c s3 nc hc => ?_⟩
    refine q _ (.word x) H3 (.tup (SqT.of hc) (.cons (.str _) (.cons (.str _) .nil))) ?_ ?_ ((k1.trans k2).trans (Kp.of s3)) (p2.kp (S := []) (by simp) (Kp.of s3))
    · show (PyData.strOk "word" && ((PyData.str x).canLay0 && true)) = true
      rw [name_lay (st.ok x hx)]; decide +kernel
    · simp only [Sn.d, PyData.depth, PyData.depthAll]; omega
theorem ok_sent (T : Tx K w mg) : ∀ N : Nat, FnOk P w K mg base CX0 (N + 1) T.a__law_sentence T.d__law_sentence ["state", "depth"] (spSent K N)
  | 0 => by
    have no : ∀ vs H Q E, ¬ spSent K 0 vs H Q E := fun vs H Q E h => by
      obtain ⟨S, l, W, words, F, dep, _, hd, _⟩ := h
      omega
    exact ⟨fun vs H Q E h => absurd h (no vs H Q E), fun A outer s H args us vs Q E _ _ _ _ h => absurd h (no vs H Q E)⟩
  | N + 1 => sent_step T (ok_sent T N)
def setB (F : Key → Option V) (b : Int) : Key → Option V := fun k => if k = .inr "budget" then some (.int b) else F k
/-- with references and rows to spend -/
structure Stb (H : Hp) (S l W R : Addr) (words refs : List Str) (b : Int) (F : Key → Option V) : Prop where
  a : Sta H S l W words (setB F b)
  fr : F (.inr "refs") = some (.ref R)
  hr : H R = some (.lst (refs.map V.str))
  r0 : 0 < refs.length
  rz : refs.length ≤ 1000
  rl : R ≠ l
theorem putK_same {kvs : List (Key × V)} {k : Key} {v u : V} (h : valV kvs k = some u) : (putK kvs k v).length = kvs.length := by
  have e : (kvs.any fun kv => decide (kv.1 = k)) = true := by
    unfold valV at h
    obtain ⟨p, hp, _⟩ := Option.map_eq_some_iff.mp h
    exact List.any_eq_true.mpr ⟨p, List.mem_of_find?_eq_some hp, List.find?_some (p := fun kv : Key × V => decide (kv.1 = k)) hp⟩
  unfold putK
  rw [if_pos e, List.length_map]
namespace Stb
variable {H H' : Hp} {S l W R : Addr} {words refs : List Str} {b : Int} {F : Key → Option V}
theorem kp (st : Stb H S l W R words refs b F) (k : Kp [l] H H') (p : Pool H' l) : Stb H' S l W R words refs b F := ⟨st.a.kp k p, st.fr, k _ _ (lone st.rl) st.hr, st.r0, st.rz, st.rl⟩
theorem sm (st : Stb H S l W R words refs b F) (s : Same H H') : Stb H' S l W R words refs b F := ⟨st.a.sm s, st.fr, s _ _ st.hr, st.r0, st.rz, st.rl⟩
theorem gRefs (st : Stb H S l W R words refs b F) : DGet H S (.str "refs") (some (.ref R)) := by
  have := st.a.get (.inr "refs")
  unfold setB at this
  rwa [if_neg (by decide +kernel), st.fr] at this
theorem gBud (st : Stb H S l W R words refs b F) : DGet H S (.str "budget") (some (.int b)) := by
  have := st.a.get (.inr "budget")
  unfold setB at this
  rwa [if_pos rfl] at this
theorem put (st : Stb H S l W R words refs b F) (c : Int) : ∃ kvs, H S = some (.dK kvs) ∧ kvs.length < sizeLine ∧ Stb (upd H S (.dK (putK kvs (.inr "budget") (.int c)))) S l W R words refs c F := by
  obtain ⟨kvs, h, f, z⟩ := st.a.dict
  have SW : W ≠ S := (ne_of st.a.hw h fun z => by cases z)
  have SR : R ≠ S := (ne_of st.hr h fun z => by cases z)
  have ne : ∀ x : Str, ((x == "budget") = false) → ∀ v, setB F b (.inr x) = v → setB F c (.inr x) = v := fun x e v q => by
    have : ¬ ((.inr x : Key) = .inr "budget") := fun z => by
      rw [Sum.inr.inj z, beq_self_eq_true] at e
      cases e
    unfold setB at q ⊢
    rw [if_neg this] at q ⊢
    exact q
  refine ⟨kvs, h, sz_lt (by omega), ⟨⟨_, upd_same, fun k => ?_, ?_⟩, ne _ (by decide +kernel) _ st.a.fp, ne _ (by decide +kernel) _ st.a.ff, ne _ (by decide +kernel) _ st.a.fw, by rw [upd_ne SW]; exact st.a.hw, st.a.pool.kp (S := [S]) (lone st.a.sl.symm) (Kp.wr (.head _)), st.a.ok, st.a.n0, st.a.nz, st.a.wl⟩, st.fr, by rw [upd_ne SR]; exact st.hr, st.r0, st.rz, st.rl⟩
  · rw [valV_put]
    unfold setB
    by_cases e : k = .inr "budget"
    · rw [if_pos e, if_pos e]
    · rw [if_neg e, if_neg e, f k]
      unfold setB
      rw [if_neg e]
  · rw [putK_same (f (.inr "budget"))]
    · exact z
theorem nt (st : Stb H S l W R words refs b F) : NT [l, S] H := by
  obtain ⟨kvs, h, _⟩ := st.a.dict
  intro x m o e
  rcases List.mem_cons.mp m with rfl | m
  · exact st.a.pool.nt _ (.head _) o e
  · exact NT.dict h _ m o e
end Stb
def spRef : Sp := fun vs H Q _ => ∃ (S l W R : Addr) (words refs : List Str) (b : Int) (F : Key → Option V) (lv : Int), vs = [.ref S, .int lv] ∧ Stb H S l W R words refs b F ∧ 0 ≤ lv ∧ lv < 1000000 ∧ ∀ r H', Kp [l] H H' → Pool H' l → Q (kV r) H'
theorem ok_ref (T : Tx K w mg) {k : Nat} : FnOk P w K mg base CX0 (k + 2) T.a__law_ref T.d__law_ref ["state", "level"] spRef := by
  have G__law_next := ok_next (P := P) (base := base) T (k := k)
  refine T.F__law_ref.ok sc__law_ref (fun vs H Q E h => ?_) (fun cdv A outer s H vs Q E hr h => ?_)
  · obtain ⟨S, l, W, R, words, refs, b, F, lv, rfl, _⟩ := h
    rfl
  obtain ⟨S, l, W, R, words, refs, b, F, lv, rfl, st, l0, l1, q⟩ := h
  have r0 := st.r0
  have rz := st.rz
  refine ⟨_, (pss_cons (ps_set (i := 2) sc__law_ref.nd rfl (Or.inl rfl) (pe_dget (hu_of hr) (pv 0) pe_str (fun _ _ => rfl)))
    (pss_cons (ps_if (PW.pt (pw_and (pt_cmpR op_gt (pv 1) pe_int (nomark _)) (pw_and1 (pt_cmpR op_eq (pe_call (G__law_next) hr (by rfl) T.g__law_next T.k__law_next T.b__law_next .nil pass0 (pa_cons (pv 2) (pa_cons pe_int pa_nil))) pe_int (nomark _)))))
      (pss_one (ps_ret (pe_call (G__law_next) hr (by rfl) T.g__law_next T.k__law_next T.b__law_next .nil pass0 (pa_cons (pv 2) (pa_cons (pv 1) pa_nil)))))
      pss_nil)
    (pss_one (ps_ret (pe_ix ix_list (pe_dget (hu_of hr) (pv 0) pe_str (fun _ _ => rfl)) (pe_call (G__law_next) hr (by rfl) T.g__law_next T.k__law_next T.b__law_next .nil pass0 (pa_cons (pv 2) (pa_cons (pe_callB call_len_seq (by rfl) T.z_len (by decide +kernel) (pa_cons (pe_dget (hu_of hr) (pv 0) pe_str (fun _ _ => rfl)) pa_nil)) pa_nil))) (fun _ _ => rfl)))))), ?_⟩
  refine ⟨_, rfl, S, .ref l, rfl, st.a.gPool, ?_⟩
  refine ⟨_, rfl, _, _, rfl, rfl, _, rfl, iteB (fun c1 => ?_) fun c1 => iteF ?_⟩
  · have lp : 0 < lv := of_decide_eq_true c1
    refine ⟨_, rfl, l, 3, rfl, st.a.pool, by decide, by decide, fun d H1 d0 d1 k1 p1 => ⟨rfl, _, rfl, iteB (fun _ => ?_) (fun _ => ?_)⟩⟩
    · exact ⟨_, rfl, _, rfl, l, lv, rfl, p1, lp, by omega, fun f H2 f0 f1 k2 p2 => q (.inl f) H2 (k1.trans k2) p2⟩
    · have st1 := st.kp k1 p1
      refine ⟨_, rfl, S, .ref R, rfl, st1.gRefs, _, rfl, _, rfl, S, .ref R, rfl, st1.gRefs, R, _, rfl, .inl (SqL.of st1.hr), l, _, rfl, p1, by rw [List.length_map]; omega, by rw [List.length_map]; omega, fun e H2 e0 e1 k2 p2 => ?_⟩
      obtain ⟨x, _, hx⟩ := draw_at e0 e1
      exact ⟨R, _, e, .str x, rfl, rfl, SqL.of (st1.kp k2 p2).hr, hx, q (.inr x) H2 (k1.trans k2) p2⟩
  · refine ⟨_, rfl, S, .ref R, rfl, st.gRefs, _, rfl, _, rfl, S, .ref R, rfl, st.gRefs, R, _, rfl, .inl (SqL.of st.hr), l, _, rfl, st.a.pool, by rw [List.length_map]; omega, by rw [List.length_map]; omega, fun e H2 e0 e1 k2 p2 => ?_⟩
    obtain ⟨x, _, hx⟩ := draw_at e0 e1
    exact ⟨R, _, e, .str x, rfl, rfl, SqL.of (st.kp k2 p2).hr, hx, q (.inr x) H2 k2 p2⟩
end
end HA

/-! A derivation drawn by form. -/
namespace HA
open PySem PySem.Spec PyProof.Rows L2 HX
theorem depth_key (r : Key) : (kD r).depth = 0 := by cases r <;> rfl
theorem Row.mv_depth (old new : Int) (ρ : Ren) (t : Row) : (t.mv old new ρ).d.depth = t.d.depth := by
  induction t <;> simp only [Row.mv, Row.d, PyData.depth, PyData.depthAll, depth_key, *]
/-- drawn at that depth, so many rows spent -/
structure Grn (dep : Nat) (b b' : Int) (t : Row) : Prop where
  ok : t.ok
  ht : t.ht + dep ≤ 59
  sz : (t.sz : Int) = b - b'
  few : (t.sz : Int) ≤ 2 * max (b - 1) 0 + 1
  dp : t.d.depth ≤ t.ht + 5
namespace Grn
variable {dep : Nat} {b b1 b2 : Int} {t u : Row} {k : Kd}
theorem own {r : Key} (h : dep ≤ 58) : Grn dep b (b - 1) (.own r) := ⟨trivial, by simp only [Row.ht]; omega, by simp only [Row.sz]; omega, by simp only [Row.sz]; omega, by simp only [Row.d, PyData.depth, PyData.depthAll, depth_key, Row.ht]; omega⟩
theorem cite {x : Str} (h : dep ≤ 58) : Grn dep b (b - 1) (.cite x) := ⟨trivial, by simp only [Row.ht]; omega, by simp only [Row.sz]; omega, by simp only [Row.sz]; omega, by simp only [Row.d, PyData.depth, PyData.depthAll, Row.ht]; omega⟩
theorem take (h : Grn (dep + 1) (b - 1) b1 t) (c : 0 < b - 1) : Grn dep b b1 (.take t) := by
  obtain ⟨h1, h2, h3, h4, h5⟩ := h
  exact ⟨h1, by simp only [Row.ht]; omega, by simp only [Row.sz]; omega, by simp only [Row.sz]; omega, by simp only [Row.d, PyData.depth, PyData.depthAll, Row.ht]; omega⟩
theorem make {x : Str} {i : Int} (h : Grn (dep + 1) (b - 1) b1 t) (c : 0 < b - 1) : Grn dep b b1 (.make x i t) := by
  obtain ⟨h1, h2, h3, h4, h5⟩ := h
  exact ⟨h1, by simp only [Row.ht]; omega, by simp only [Row.sz]; omega, by simp only [Row.sz]; omega, by simp only [Row.d, PyData.depth, PyData.depthAll, Row.ht]; omega⟩
theorem pick {r : Key} {x : Str} (h : Grn (dep + 1) (b - 1) b1 t) (c : 0 < b - 1) : Grn dep b b1 (.pick r x t) := by
  obtain ⟨h1, h2, h3, h4, h5⟩ := h
  exact ⟨h1, by simp only [Row.ht]; omega, by simp only [Row.sz]; omega, by simp only [Row.sz]; omega, by simp only [Row.d, PyData.depth, PyData.depthAll, depth_key, Row.ht]; omega⟩
theorem opn {r : Key} {x : Str} {i : Int} (h : Grn (dep + 1) (b - 1) b1 t) (c : 0 < b - 1) : Grn dep b b1 (.opn r x i t) := by
  obtain ⟨h1, h2, h3, h4, h5⟩ := h
  exact ⟨h1, by simp only [Row.ht]; omega, by simp only [Row.sz]; omega, by simp only [Row.sz]; omega, by simp only [Row.d, PyData.depth, PyData.depthAll, depth_key, Row.ht]; omega⟩
theorem offer (h : Grn (dep + 1) (b - 1) b1 t) (g : Grn (dep + 1) b1 b2 u) (c : 0 < b - 1) : Grn dep b b2 (.offer t u) := by
  obtain ⟨h1, h2, h3, h4, h5⟩ := h
  obtain ⟨g1, g2, g3, g4, g5⟩ := g
  exact ⟨⟨h1, g1⟩, by simp only [Row.ht]; omega, by simp only [Row.sz]; omega, by simp only [Row.sz]; omega, by simp only [Row.d, PyData.depth, PyData.depthAll, Row.ht]; omega⟩
theorem pay {r : Key} (hk : k.ok) (h : Grn (dep + 1) (b - 1) b1 t) (g : Grn (dep + 1) b1 b2 u) (c : 0 < b - 1) : Grn dep b b2 (.pay r k t u) := by
  obtain ⟨h1, h2, h3, h4, h5⟩ := h
  obtain ⟨g1, g2, g3, g4, g5⟩ := g
  have kd := kd_dep k
  exact ⟨⟨hk, h1, g1⟩, by simp only [Row.ht]; omega, by simp only [Row.sz]; omega, by simp only [Row.sz]; omega, by simp only [Row.d, PyData.depth, PyData.depthAll, depth_key, Row.ht]; omega⟩
theorem cut {s : Sn} (hk : k.ok) (hs : s.d.depth ≤ 3) (h : Grn (dep + 1) (b - 1) b1 t) (g : Grn (dep + 1) b1 b2 u) (c : 0 < b - 1) : Grn dep b b2 (.cut k s t u) := by
  obtain ⟨h1, h2, h3, h4, h5⟩ := h
  obtain ⟨g1, g2, g3, g4, g5⟩ := g
  have kd := kd_dep k
  exact ⟨⟨hk, h1, g1⟩, by simp only [Row.ht]; omega, by simp only [Row.sz]; omega, by simp only [Row.sz]; omega, by simp only [Row.d, PyData.depth, PyData.depthAll, Row.ht]; omega⟩
end Grn
section
variable {P : Program} {w : World} {K : PySem.W.Frag} {mg : Str → Option Value} {base : Heap}
def spFree (K : PySem.W.Frag) (N : Nat) : Sp := fun vs H Q _ => ∃ (S l W R : Addr) (words refs : List Str) (b : Int) (F : Key → Option V) (lv room : Int) (dep : Nat), vs = [.ref S, .int lv, .int room, .int (dep : Int)] ∧ Stb H S l W R words refs b F ∧
  dep ≤ 58 ∧ 58 < N + dep ∧ 0 ≤ lv ∧ lv ≤ dep ∧ 1 ≤ room ∧ room ≤ 1000 ∧
  ∀ v t b' H', Dp K H' v (Row.d t) → Grn dep b b' t → Kp [l, S] H H' → Stb H' S l W R words refs b' F → Q v H'
theorem Kp.lS {l S : Addr} {H H' : Hp} (k : Kp [l] H H') : Kp [l, S] H H' := k.mono fun x m => by rw [List.mem_singleton.mp m]; exact .head _
theorem free_step (T : Tx K w mg) {N : Nat} (G__law_free : FnOk P w K mg base CX0 (N + 4) T.a__law_free T.d__law_free ["state", "level", "room", "depth"] (spFree K N)) :
    FnOk P w K mg base CX0 (N + 5) T.a__law_free T.d__law_free ["state", "level", "room", "depth"] (spFree K (N + 1)) := by
  have G__law_next := ok_next (P := P) (base := base) T (k := N + 3)
  have G__law_called := ok_called (P := P) (base := base) T (k := N + 2)
  have G__law_ref := ok_ref (P := P) (base := base) T (k := N + 2)
  have G__law_mode := ok_mode (P := P) (base := base) T (k := N + 2)
  have G__law_sentence := ok_sent (P := P) (base := base) T (N + 3)
  refine T.F__law_free.ok sc__law_free (fun vs H Q E h => ?_) (fun cdv A outer s H vs Q E hr h => ?_)
  · obtain ⟨S, l, W, R, words, refs, b, F, lv, room, dep, rfl, _⟩ := h
    rfl
  obtain ⟨S, l, W, R, words, refs, b, F, lv, room, dep, rfl, st0, hd, hN, lv0, lv1, r1, r2, q⟩ := h
  refine ⟨_, (pss_cons (ps_set (i := 4) sc__law_free.nd rfl (Or.inl rfl) (pe_dget (hu_of hr) (pv 0) pe_str (fun _ _ => rfl)))
    (pss_cons (ps_dput (hu_of hr) (pv 0) pe_str (pe_op op_sub (pe_dget (hu_of hr) (pv 0) pe_str (fun _ _ => rfl)) pe_int) rfl)
    (pss_cons (ps_set (i := 5) sc__law_free.nd rfl (Or.inl rfl) (pe_call (G__law_next) hr (by rfl) T.g__law_next T.k__law_next T.b__law_next .nil pass0 (pa_cons (pv 4) (pa_cons pe_int pa_nil))))
    (C8.pss_cut (ps_if (PW.pt (pw_or (pt_cmpR op_le (pe_dget (hu_of hr) (pv 0) pe_str (fun _ _ => rfl)) pe_int (nomark _)) (pw_or1 (pt_cmpR op_gt (pv 3) pe_int (nomark _)))))
      (pss_one (ps_set (i := 5) sc__law_free.nd rfl (Or.inl rfl) (pe_op op_fdiv (pv 5) pe_int)))
      pss_nil)
    (pss_cons (ps_if (pt_cmpR op_eq (pv 5) pe_int (nomark _))
      (pss_one (ps_ret (pe_tupN (pa_cons pe_str (pa_cons (pe_call (G__law_ref) hr (by rfl) T.g__law_ref T.k__law_ref T.b__law_ref .nil pass0 (pa_cons (pv 0) (pa_cons (pv 1) pa_nil))) pa_nil)))))
      pss_nil)
    (pss_cons (ps_if (pt_cmpR op_eq (pv 5) pe_int (nomark _))
      (pss_one (ps_ret (pe_tupN (pa_cons pe_str (pa_cons (pe_call (G__law_called) hr (by rfl) T.g__law_called T.k__law_called T.b__law_called .nil pass0 (pa_cons (pv 0) pa_nil)) pa_nil)))))
      pss_nil)
    (pss_cons (ps_if (pt_cmpR op_eq (pv 5) pe_int (nomark _))
      (pss_one (ps_ret (pe_tupN (pa_cons pe_str (pa_cons (pe_call (G__law_free) hr (by rfl) T.g__law_free T.k__law_free T.b__law_free .nil pass0 (pa_cons (pv 0) (pa_cons (pe_op op_add (pv 1) pe_int) (pa_cons (pv 2) (pa_cons (pe_op op_add (pv 3) pe_int) pa_nil))))) pa_nil)))))
      pss_nil)
    (pss_cons (ps_if (pt_cmpR op_eq (pv 5) pe_int (nomark _))
      (pss_one (ps_ret (pe_tupN (pa_cons pe_str (pa_cons (pe_call (G__law_called) hr (by rfl) T.g__law_called T.k__law_called T.b__law_called .nil pass0 (pa_cons (pv 0) pa_nil)) (pa_cons (pe_call (G__law_next) hr (by rfl) T.g__law_next T.k__law_next T.b__law_next .nil pass0 (pa_cons (pv 4) (pa_cons pe_int pa_nil))) (pa_cons (pe_call (G__law_free) hr (by rfl) T.g__law_free T.k__law_free T.b__law_free .nil pass0 (pa_cons (pv 0) (pa_cons (pv 1) (pa_cons (pv 2) (pa_cons (pe_op op_add (pv 3) pe_int) pa_nil))))) pa_nil)))))))
      pss_nil)
    (pss_cons (ps_if (pt_cmpR op_lt (pv 5) pe_int (nomark _))
      (pss_cons (ps_set (i := 6) sc__law_free.nd rfl (Or.inl rfl) (pe_call (G__law_free) hr (by rfl) T.g__law_free T.k__law_free T.b__law_free .nil pass0 (pa_cons (pv 0) (pa_cons (pv 1) (pa_cons (pv 2) (pa_cons (pe_op op_add (pv 3) pe_int) pa_nil))))))
      (pss_one (ps_ret (pe_tupN (pa_cons pe_str (pa_cons (pv 6) (pa_cons (pe_call (G__law_free) hr (by rfl) T.g__law_free T.k__law_free T.b__law_free .nil pass0 (pa_cons (pv 0) (pa_cons (pv 1) (pa_cons (pv 2) (pa_cons (pe_op op_add (pv 3) pe_int) pa_nil))))) pa_nil)))))))
      pss_nil)
    (pss_cons (ps_if (pt_cmpR op_eq (pv 5) pe_int (nomark _))
      (pss_cons (ps_set (i := 7) sc__law_free.nd rfl (Or.inl rfl) (pe_ix ix_list (pe_lstN (pa_cons pe_str (pa_cons pe_str pa_nil))) (pe_call (G__law_next) hr (by rfl) T.g__law_next T.k__law_next T.b__law_next .nil pass0 (pa_cons (pv 4) (pa_cons pe_int pa_nil))) (fun _ _ => rfl)))
      (pss_one (ps_ret (pe_tupN (pa_cons pe_str (pa_cons (pe_call (G__law_ref) hr (by rfl) T.g__law_ref T.k__law_ref T.b__law_ref .nil pass0 (pa_cons (pv 0) (pa_cons (pv 1) pa_nil))) (pa_cons (pv 7) (pa_cons (pe_call (G__law_free) hr (by rfl) T.g__law_free T.k__law_free T.b__law_free .nil pass0 (pa_cons (pv 0) (pa_cons (pe_op op_add (pv 1) pe_int) (pa_cons (pv 2) (pa_cons (pe_op op_add (pv 3) pe_int) pa_nil))))) pa_nil))))))))
      pss_nil)
    (pss_cons (ps_if (pt_cmpR op_eq (pv 5) pe_int (nomark _))
      (pss_cons (ps_set (i := 8) sc__law_free.nd rfl (Or.inl rfl) (pe_tupN (pa_cons pe_str (pa_cons (pe_call (G__law_ref) hr (by rfl) T.g__law_ref T.k__law_ref T.b__law_ref .nil pass0 (pa_cons (pv 0) (pa_cons (pv 1) pa_nil))) (pa_cons (pe_call (G__law_called) hr (by rfl) T.g__law_called T.k__law_called T.b__law_called .nil pass0 (pa_cons (pv 0) pa_nil)) (pa_cons (pe_call (G__law_next) hr (by rfl) T.g__law_next T.k__law_next T.b__law_next .nil pass0 (pa_cons (pv 4) (pa_cons pe_int pa_nil))) pa_nil))))))
      (pss_one (ps_ret (pe_op op_catN (pv 8) (pe_tupN (pa_cons (pe_call (G__law_free) hr (by rfl) T.g__law_free T.k__law_free T.b__law_free .nil pass0 (pa_cons (pv 0) (pa_cons (pe_op op_add (pv 1) pe_int) (pa_cons (pv 2) (pa_cons (pe_op op_add (pv 3) pe_int) pa_nil))))) pa_nil))))))
      pss_nil)
    (pss_cons (ps_set (i := 9) sc__law_free.nd rfl (Or.inl rfl) (pe_call (G__law_mode) hr (by rfl) T.g__law_mode T.k__law_mode T.b__law_mode .nil pass0 (pa_cons (pv 4) (pa_cons (pv 2) pa_nil))))
    (pss_cons (ps_set (i := 10) sc__law_free.nd rfl (Or.inl rfl) (pv 2))
    (C8.pss_cut (ps_if (pt_cmpR (op_neD hr.units) (pv 9) pe_str (nomark _))
      (pss_one (ps_set (i := 10) sc__law_free.nd rfl (Or.inl rfl) (pe_op op_fdiv (pv 2) (pe_ix ix_tup (pv 9) pe_int (fun _ _ => rfl)))))
      pss_nil)
    (pss_cons (ps_set (i := 8) sc__law_free.nd rfl (Or.inl rfl) (pe_tupN (pa_cons pe_str (pa_cons (pv 9) (pa_cons (pe_call (G__law_sentence) hr (by rfl) T.g__law_sentence T.k__law_sentence T.b__law_sentence .nil pass0 (pa_cons (pv 0) (pa_cons pe_int pa_nil))) pa_nil)))))
    (C8.pss_cut (ps_if (pt_cmpR op_lt (pv 5) pe_int (nomark _))
      (pss_one (ps_set (i := 8) sc__law_free.nd rfl (Or.inl rfl) (pe_tupN (pa_cons pe_str (pa_cons (pe_call (G__law_ref) hr (by rfl) T.g__law_ref T.k__law_ref T.b__law_ref .nil pass0 (pa_cons (pv 0) (pa_cons (pv 1) pa_nil))) (pa_cons (pv 9) pa_nil))))))
      pss_nil)
    (pss_cons (ps_set (i := 11) sc__law_free.nd rfl (Or.inl rfl) (pe_call (G__law_free) hr (by rfl) T.g__law_free T.k__law_free T.b__law_free .nil pass0 (pa_cons (pv 0) (pa_cons (pv 1) (pa_cons (pv 10) (pa_cons (pe_op op_add (pv 3) pe_int) pa_nil))))))
    (pss_one (ps_ret (pe_op op_catN (pv 8) (pe_tupN (pa_cons (pv 11) (pa_cons (pe_call (G__law_free) hr (by rfl) T.g__law_free T.k__law_free T.b__law_free .nil pass0 (pa_cons (pv 0) (pa_cons (pe_op op_add (pv 1) pe_int) (pa_cons (pv 2) (pa_cons (pe_op op_add (pv 3) pe_int) pa_nil))))) pa_nil))))))))))))))))))))))), ?_⟩
  refine ⟨_, rfl, S, .ref l, rfl, st0.a.gPool, ?_⟩
  obtain ⟨kvs, hS, zS, st1⟩ := st0.put (b - 1)
  refine ⟨_, rfl, S, .int b, rfl, st0.gBud, _, _, rfl, rfl, _, rfl, S, _, rfl, DPut.k (k := .inr "budget") hS zS, ?_⟩
  have k1 : Kp [l, S] H (upd H S (.dK (putK kvs (.inr "budget") (.int (b - 1))))) := Kp.wr (.tail _ (.head _))
  revert st1 k1
  generalize upd H S (.dK (putK kvs (.inr "budget") (.int (b - 1)))) = H1
  intro st1 k1
  refine ⟨_, rfl, l, 12, rfl, st1.a.pool, by decide, by decide, fun d H2 d0 d1 k2 p2 => ?_⟩
  have st2 := st1.kp k2 p2
  have k12 : Kp [l, S] H H2 := k1.trans k2.lS
  refine ⟨fun σ' H' => ∃ e : Int, σ' = [some (.ref S), some (.int lv), some (.int room), some (.int (dep : Int)), some (.ref l), some (.int e), none, none, none, none, none, none] ∧ H' = H2 ∧ 0 ≤ e ∧ e < 12 ∧ (1 < e → 0 < b - 1 ∧ dep ≤ 57), ?_, ?_⟩
  · refine ⟨_, rfl, S, .int (b - 1), rfl, st2.gBud, _, _, rfl, rfl, _, rfl, iteB (fun c1 => iteT ?_) fun c1 => ⟨_, rfl, _, _, rfl, rfl, _, rfl, iteB (fun c2 => ?_) fun c2 => ?_⟩⟩
    · refine ⟨_, rfl, _, _, rfl, rfl, ⟨by decide, by decide⟩, _, rfl, rfl, Int.ediv_nonneg d0 (by decide), ?_, fun z => ?_⟩
      · have := Int.ediv_le_self 10 d0; omega
      · have : d / 10 ≤ 1 := by omega
        omega
    · refine ⟨_, rfl, _, _, rfl, rfl, ⟨by decide, by decide⟩, _, rfl, rfl, Int.ediv_nonneg d0 (by decide), ?_, fun z => ?_⟩
      · have := Int.ediv_le_self 10 d0; omega
      · have : d / 10 ≤ 1 := by omega
        omega
    · have e1 : ¬ (b - 1 ≤ 0) := of_decide_eq_false c1
      have e2 : ¬ ((57 : Int) < (dep : Int)) := of_decide_eq_false c2
      exact ⟨d, rfl, rfl, d0, d1, fun _ => ⟨by omega, by omega⟩⟩
  rintro σ' H' ⟨e, rfl, eH, e0, e12, big⟩
  have eH' := eH.symm
  subst eH'
  have p2' := st2.a.pool
  have ed : ((dep : Int) + 1) = ((dep + 1 : Nat) : Int) := by omega
  have fin := fun v t b' H' (a : Dp K H' v (Row.d t)) (g : Grn dep b b' t) (k : Kp [l, S] H2 H') st => q v t b' H' a g (k12.trans k) st
  -- own
  refine ⟨_, rfl, rfl, _, rfl, iteB (fun _ => ?_) (fun n0 => ?_)⟩
  · refine ⟨_, rfl, _, rfl, S, l, W, R, words, refs, b - 1, F, lv, rfl, st2, lv0, by omega, fun r H3 k3 p3 => ⟨(by show 2 ≤ 1000; decide), fun H4 c s4 nc hc => ?_⟩⟩
    exact fin _ (.own r) (b - 1) H4 (.tup (SqT.of hc) (.cons (.str _) (.cons (Dp.key r) .nil))) (Grn.own hd) (k3.lS.trans (Kp.of s4)) ((st2.kp k3 p3).sm s4)
  -- cite
  refine ⟨_, rfl, rfl, _, rfl, iteB (fun _ => ?_) (fun n1 => ?_)⟩
  · refine ⟨_, rfl, S, l, W, words, _, rfl, st2.a, fun x H3 k3 p3 => ⟨(by show 2 ≤ 1000; decide), fun H4 c s4 nc hc => ?_⟩⟩
    exact fin _ (.cite x) (b - 1) H4 (.tup (SqT.of hc) (.cons (.str _) (.cons (.str _) .nil))) (Grn.cite hd) (k3.lS.trans (Kp.of s4)) ((st2.kp k3 p3).sm s4)
  have ne0 : e ≠ 0 := fun z => by
    subst z
    cases n0
  have ne1 : e ≠ 1 := fun z => by
    subst z
    cases n1
  obtain ⟨bp, dp⟩ := big (by omega)
  -- take
  refine ⟨_, rfl, rfl, _, rfl, iteB (fun _ => ?_) (fun _ => ?_)⟩
  · refine ⟨_, rfl, _, rfl, _, _, rfl, rfl, _, rfl, _, rfl, _, _, rfl, rfl, S, l, W, R, words, refs, b - 1, F, lv + 1, room, dep + 1, congrArg (fun z => [V.ref S, V.int (lv + 1), V.int room, V.int z]) ed, st2, by omega, by omega, by omega, by omega, r1, r2,
      fun v t b' H3 a g k3 st3 => ⟨(by show 2 ≤ 1000; decide), fun H4 c s4 nc hc => ?_⟩⟩
    exact fin _ (.take t) b' H4 (.tup (SqT.of hc) (.cons (.str _) (.cons (Dp.sm s4 _ _ a) .nil))) (g.take bp) (k3.trans (Kp.of s4)) (st3.sm s4)
  -- make
  refine ⟨_, rfl, rfl, _, rfl, iteB (fun _ => ?_) (fun _ => ?_)⟩
  · refine ⟨_, rfl, S, l, W, words, _, rfl, st2.a, fun x H3 k3 p3 => ⟨_, rfl, l, 4, rfl, p3, by decide, by decide, fun i H4 i0 i1 k4 p4 => ?_⟩⟩
    have st4 := (st2.kp k3 p3).kp k4 p4
    refine ⟨_, rfl, _, rfl, _, rfl, _, rfl, _, _, rfl, rfl, S, l, W, R, words, refs, b - 1, F, lv, room, dep + 1, congrArg (fun z => [V.ref S, V.int lv, V.int room, V.int z]) ed, st4, by omega, by omega, by omega, by omega, r1, r2,
      fun v t b' H5 a g k5 st5 => ⟨(by show 4 ≤ 1000; decide), fun H6 c s6 nc hc => ?_⟩⟩
    exact fin _ (.make x i t) b' H6 (.tup (SqT.of hc) (.cons (.str _) (.cons (.str _) (.cons (.int _) (.cons (Dp.sm s6 _ _ a) .nil))))) (g.make bp) (((k3.trans k4).lS.trans k5).trans (Kp.of s6)) (st5.sm s6)
  -- offer
  refine ⟨_, rfl, _, _, rfl, rfl, _, rfl, iteB (fun _ => ?_) (fun _ => ?_)⟩
  · refine ⟨_, rfl, _, rfl, _, rfl, _, rfl, _, _, rfl, rfl, S, l, W, R, words, refs, b - 1, F, lv, room, dep + 1, congrArg (fun z => [V.ref S, V.int lv, V.int room, V.int z]) ed, st2, by omega, by omega, by omega, by omega, r1, r2,
      fun v t b' H3 a g k3 st3 => ?_⟩
    refine ⟨_, rfl, _, rfl, _, rfl, _, rfl, _, rfl, _, _, rfl, rfl, S, l, W, R, words, refs, b', F, lv, room, dep + 1, congrArg (fun z => [V.ref S, V.int lv, V.int room, V.int z]) ed, st3, by omega, by omega, by omega, by omega, r1, r2,
      fun v2 t2 b2 H4 a2 g2 k4 st4 => ⟨(by show 3 ≤ 1000; decide), fun H5 c s5 nc hc => ?_⟩⟩
    exact fin _ (.offer t t2) b2 H5 (.tup (SqT.of hc) (.cons (.str _) (.cons (Dp.sm s5 _ _ (dpN k4 st3.nt _ _ t.tu a)) (.cons (Dp.sm s5 _ _ a2) .nil)))) (g.offer g2 bp) ((k3.trans k4).trans (Kp.of s5)) (st4.sm s5)
  -- pick
  refine ⟨_, rfl, rfl, _, rfl, iteB (fun _ => ?_) (fun _ => ?_)⟩
  · refine ⟨by decide, fun H3 x s3 nx hx => ?_⟩
    have p3 := p2'.kp (S := []) (by simp) (Kp.of s3)
    have hxl : x ∉ [l] := fun z => by
      obtain ⟨a1, a2, a3, ee, _⟩ := p2'
      rw [List.mem_singleton.mp z, ee] at nx
      cases nx
    refine ⟨_, rfl, l, 2, rfl, p3, by decide, by decide, fun f H4 f0 f1 k4 p4 => ?_⟩
    have sd : ∃ y : Str, atI [V.str "left", V.str "right"] f = some (.str y) := by
      have : f = 0 ∨ f = 1 := by omega
      rcases this with rfl | rfl
      · exact ⟨"left", rfl⟩
      · exact ⟨"right", rfl⟩
    obtain ⟨y, hat⟩ := sd
    refine ⟨x, _, f, .str y, rfl, rfl, SqL.of (k4 _ _ hxl hx), hat, ?_⟩
    have st4 := (st2.sm s3).kp k4 p4
    have k24 : Kp [l] H2 H4 := (Kp.of s3).trans k4
    refine ⟨_, rfl, _, rfl, S, l, W, R, words, refs, b - 1, F, lv, rfl, st4, lv0, by omega, fun r H5 k5 p5 => ?_⟩
    refine ⟨_, rfl, _, rfl, _, rfl, _, _, rfl, rfl, _, rfl, _, rfl, _, _, rfl, rfl, S, l, W, R, words, refs, b - 1, F, lv + 1, room, dep + 1, congrArg (fun z => [V.ref S, V.int (lv + 1), V.int room, V.int z]) ed, st4.kp k5 p5, by omega, by omega, by omega, by omega, r1, r2,
      fun v t b' H6 a g k6 st6 => ⟨(by show 4 ≤ 1000; decide), fun H7 c s7 nc hc => ?_⟩⟩
    exact fin _ (.pick r y t) b' H7 (.tup (SqT.of hc) (.cons (.str _) (.cons (Dp.key r) (.cons (.str _) (.cons (Dp.sm s7 _ _ a) .nil))))) (g.pick bp) (((k24.trans k5).lS.trans k6).trans (Kp.of s7)) (st6.sm s7)
  -- open
  refine ⟨_, rfl, rfl, _, rfl, iteB (fun _ => ?_) (fun _ => ?_)⟩
  · refine ⟨_, rfl, _, rfl, S, l, W, R, words, refs, b - 1, F, lv, rfl, st2, lv0, by omega, fun r H3 k3 p3 => ?_⟩
    have st3 := st2.kp k3 p3
    refine ⟨_, rfl, S, l, W, words, _, rfl, st3.a, fun x H4 k4 p4 => ⟨_, rfl, l, 4, rfl, p4, by decide, by decide, fun i H5 i0 i1 k5 p5 => ⟨(by show 4 ≤ 1000; decide), fun H6 c s6 nc hc => ?_⟩⟩⟩
    have st6 := ((st3.kp k4 p4).kp k5 p5).sm s6
    have k26 : Kp [l] H2 H6 := ((k3.trans k4).trans k5).trans (Kp.of s6)
    refine ⟨_, rfl, _, rfl, _, rfl, _, _, rfl, rfl, _, rfl, _, rfl, _, _, rfl, rfl, S, l, W, R, words, refs, b - 1, F, lv + 1, room, dep + 1, congrArg (fun z => [V.ref S, V.int (lv + 1), V.int room, V.int z]) ed, st6, by omega, by omega, by omega, by omega, r1, r2,
      fun v t b' H7 a g k7 st7 => ⟨(by show 1 ≤ 1000; decide), fun H8 f s8 nf hf => ?_⟩⟩
    have hc8 : SqT K H8 c [.str "open", kV r, .str x, .int i] := s8.seqT (Kp.seqN k7 st6.nt (SqT.of hc))
    refine ⟨c, f, _, _, rfl, rfl, hc8, SqT.of hf, sz_le (by show 4 + 1 ≤ 100000; decide), fun H9 z s9 hz => ?_⟩
    exact fin _ (.opn r x i t) b' H9 (.tup hz (.cons (.str _) (.cons (Dp.key r) (.cons (.str _) (.cons (.int _) (.cons (Dp.sm (s8.trans s9) _ _ a) .nil)))))) (g.opn bp) ((k26.lS.trans k7).trans (Kp.of (s8.trans s9))) (st7.sm (s8.trans s9))
  -- mode, inner
  refine ⟨_, rfl, _, rfl, l, room, rfl, p2', r1, r2, fun vk kd H3 kin hk k3 p3 => ?_⟩
  have st3 := st2.kp k3 p3
  have kok := kin.ok r2
  refine ⟨_, rfl, ?_⟩
  refine ⟨fun σ' H' => ∃ j : Int, σ' = [some (.ref S), some (.int lv), some (.int room), some (.int (dep : Int)), some (.ref l), some (.int e), none, none, none, some vk, some (.int j), none] ∧ H' = H3 ∧ 1 ≤ j ∧ j ≤ 1000, ?_, ?_⟩
  · refine ⟨_, rfl, kd.d, .str "once", hk, .str _, shaped_kd kd, shaped_once, _, rfl, ?_⟩
    rw [eqv_once]
    rcases dp_kd hk with ⟨rfl, rfl⟩ | ⟨a, n, k, rfl, rfl, hs⟩
    · refine iteB (fun z => ?_) (fun _ => ⟨_, rfl, rfl, r1, r2⟩)
      rw [decide_eq_true rfl] at z
      cases z
    · refine iteB (fun _ => ?_) (fun z => ?_)
      · obtain ⟨n1, n2, n3, n4⟩ := kin
        refine ⟨_, rfl, _, rfl, a, _, 0, .int n, rfl, rfl, hs, atI_at (j := 0) rfl rfl, _, _, rfl, rfl, ⟨by omega, by omega⟩, _, rfl, rfl, ?_, ?_⟩
        · exact (Int.le_ediv_iff_mul_le (by omega)).mpr (by omega)
        · exact Int.le_trans (Int.ediv_le_self _ (by omega)) r2
      · rw [decide_eq_false (by intro z; cases z)] at z
        cases z
  rintro σ' H' ⟨j, rfl, eH2, j1, j2⟩
  have eH2' := eH2.symm
  subst eH2'
  refine ⟨_, rfl, _, rfl, S, l, W, words, _, 2, rfl, by omega, st3.a, fun vs sn H4 a1 a2 a3 k4 p4 => ⟨(by show 3 ≤ 1000; decide), fun H5 c s5 nc hc => ?_⟩⟩
  have st5 := (st3.kp k4 p4).sm s5
  have k25 : Kp [l] H2 H5 := (k3.trans k4).trans (Kp.of s5)
  have hk5 : Dp K H5 vk kd.d := Dp.sm s5 _ _ (Dp.kp k4 p3.lsts _ _ kd.tu hk)
  -- pay, cut
  refine ⟨fun σ' H' => ∃ c ds y8, σ' = [some (.ref S), some (.int lv), some (.int room), some (.int (dep : Int)), some (.ref l), some (.int e), none, none, some (.ref c), some vk, some (.int j), y8] ∧
    Dp K H' (.ref c) (.tuple ds) ∧ ds.length = 3 ∧ tuAll ds = true ∧ Kp [l] H5 H' ∧ Pool H' l ∧
    ∀ b1 b2 t u, Grn (dep + 1) (b - 1) b1 t → Grn (dep + 1) b1 b2 u → ∃ z, Row.d z = .tuple (ds ++ [t.d, u.d]) ∧ Grn dep b b2 z, ?_, ?_⟩
  · refine ⟨_, rfl, _, _, rfl, rfl, _, rfl, iteB (fun _ => ?_) (fun _ => ?_)⟩
    · refine ⟨_, rfl, _, rfl, S, l, W, R, words, refs, b - 1, F, lv, rfl, st5, lv0, by omega, fun r H6 k6 p6 => ⟨_, rfl, (by show 3 ≤ 1000; decide), fun H7 c7 s7 n7 h7 => ?_⟩⟩
      refine ⟨c7, [.str "pay", kD r, kd.d], none, rfl, .tup (SqT.of h7) (.cons (.str _) (.cons (Dp.key r) (.cons (Dp.sm s7 _ _ (Dp.kp k6 st5.a.pool.lsts _ _ kd.tu hk5)) .nil))), rfl, ?_, k6.trans (Kp.of s7), p6.kp (S := []) (by simp) (Kp.of s7),
        fun b1 b2 t u g1 g2 => ⟨.pay r kd t u, rfl, g1.pay kok g2 bp⟩⟩
      simp only [tuAll, tu, tu_key, Kd.tu, Bool.and_self]
    · refine ⟨c, [.str "cut", kd.d, sn.d], none, rfl, .tup (SqT.of hc) (.cons (.str _) (.cons hk5 (.cons (Dp.sm s5 _ _ a1) .nil))), rfl, ?_, Kp.refl _, st5.a.pool,
        fun b1 b2 t u g1 g2 => ⟨.cut kd sn t u, rfl, g1.cut kok a3 g2 bp⟩⟩
      simp only [tuAll, tu, Sn.tu, Kd.tu, Bool.and_self]
  rintro σ' H6 ⟨c', ds, y8, rfl, hc', dl, dt, k6, p6, fin2⟩
  have st6 := st5.kp k6 p6
  refine ⟨_, rfl, _, rfl, _, rfl, _, rfl, _, _, rfl, rfl, S, l, W, R, words, refs, b - 1, F, lv, j, dep + 1, congrArg (fun z => [V.ref S, V.int lv, V.int j, V.int z]) ed, st6, by omega, by omega, by omega, by omega, j1, j2,
    fun v t b' H7 a g k7 st7 => ?_⟩
  refine ⟨_, rfl, _, rfl, _, rfl, _, rfl, _, _, rfl, rfl, _, rfl, _, rfl, _, _, rfl, rfl, S, l, W, R, words, refs, b', F, lv + 1, room, dep + 1, congrArg (fun z => [V.ref S, V.int (lv + 1), V.int room, V.int z]) ed, st7, by omega, by omega, by omega, by omega, r1, r2,
    fun v2 t2 b2 H8 a8 g8 k8 st8 => ⟨(by show 2 ≤ 1000; decide), fun H9 f s9 nf hf => ?_⟩⟩
  obtain ⟨z, ez, gz⟩ := fin2 b' b2 t t2 g g8
  have hc9 := Dp.sm s9 _ _ (dpN k8 st7.nt _ _ (show tu (.tuple ds) = true from dt) (dpN k7 st6.nt _ _ (show tu (.tuple ds) = true from dt) hc'))
  obtain ⟨c2, xs, ec, hs, hx⟩ := hc9.tup_inv
  cases ec
  have lx := hx.len
  refine ⟨c', f, _, _, rfl, rfl, hs, SqT.of hf, sz_le ?_, fun H10 zz s10 hz => ?_⟩
  · show xs.length + 2 ≤ 100000
    omega
  refine fin _ z b2 H10 ?_ gz (((k25.trans k6).lS.trans (k7.trans k8)).trans (Kp.of (s9.trans s10))) (st8.sm (s9.trans s10))
  rw [ez]
  exact .tup hz ((Dp.smAll s10 _ _ hx).app (.cons (Dp.sm (s9.trans s10) _ _ (dpN k8 st7.nt _ _ t.tu a)) (.cons (Dp.sm (s9.trans s10) _ _ a8) .nil)))
theorem ok_free (T : Tx K w mg) : ∀ N : Nat, FnOk P w K mg base CX0 (N + 4) T.a__law_free T.d__law_free ["state", "level", "room", "depth"] (spFree K N)
  | 0 => by
    have no : ∀ vs H Q E, ¬ spFree K 0 vs H Q E := fun vs H Q E h => by
      obtain ⟨S, l, W, R, words, refs, b, F, lv, room, dep, _, _, h1, h2, _⟩ := h
      omega
    exact ⟨fun vs H Q E h => absurd h (no vs H Q E), fun A outer s H args us vs Q E _ _ _ _ h => absurd h (no vs H Q E)⟩
  | N + 1 => free_step T (ok_free T N)
end
end HA

/-! Claims drawn; the holds of one sentence. -/
namespace HA
open PySem PySem.Spec PyProof.Rows L2 HX
theorem op_eqDK {X : Cx} {K : PySem.W.Frag} (h : X.K = K) (hu : X.A.units + 64 < cLine) : OpR X (compareOp .Eq) (rEqD K) := by subst h; exact op_eqD hu
theorem Kp.hide2 {H H1 H2 : Hp} {a b : Addr} (x : Kp [a] H H1) (y : Kp [a, b] H1 H2) (n : H b = none) : Kp [a] H H2 := x.hide (y.mono fun z m => by
  rcases List.mem_cons.mp m with rfl | m
  · exact .tail _ (.head _)
  · rw [List.mem_singleton.mp m]; exact .head _) n
theorem all_snoc {α : Type} {p : α → Prop} {l : List α} {y : α} (h : ∀ x ∈ l, p x) (hy : p y) : ∀ x ∈ l ++ [y], p x := fun x m => (List.mem_append.mp m).elim (h x) fun z => by rw [List.mem_singleton.mp z]; exact hy
theorem Pool.lst {H : Hp} {l : Addr} (p : Pool H l) : ∃ xs, H l = some (.lst xs) := by
  obtain ⟨a, b, c, e, _⟩ := p
  exact ⟨_, e⟩
theorem Pool.lsts2 {H : Hp} {l t : Addr} {xs : List V} (p : Pool H l) (h : H t = some (.lst xs)) : Lsts [l, t] H := by
  obtain ⟨ys, e⟩ := p.lst
  exact Lsts.cons e (Lsts.one h)
/-- names that are taken, and rests of the rest as it was -/
theorem not2 {a l t : Addr} (h1 : a ≠ l) (h2 : a ≠ t) : a ∉ [l, t] := fun m => by
  rcases List.mem_cons.mp m with rfl | m
  · exact h1 rfl
  · exact h2 (List.mem_singleton.mp m)
theorem Sta.kp2 {H H' : Hp} {S l W t : Addr} {words : List Str} {F : Key → Option V} {xs : List V} (st : Sta H S l W words F) (ht : H t = some (.lst xs)) (wt : W ≠ t) (k : Kp [l, t] H H') (p : Pool H' l) : Sta H' S l W words F := by
  obtain ⟨kvs, h, f, z⟩ := st.dict
  have st' : S ≠ t := ne_of h ht fun z => by cases z
  exact ⟨⟨kvs, k _ _ (not2 st.sl st') h, f, z⟩, st.fp, st.ff, st.fw, k _ _ (not2 st.wl wt) st.hw, p, st.ok, st.n0, st.nz, st.wl⟩
/-- a claim as it is drawn -/
structure Drawn (c : Clm) : Prop where
  hold : ∀ h ∈ c.hs, h.ok
  nd : (c.hs.map Hold.nm).Nodup
  goal : c.goal.d.depth ≤ 3
section
variable {P : Program} {w : World} {K : PySem.W.Frag} {mg : Str → Option Value} {base : Heap}
def spClaim (K : PySem.W.Frag) : Sp := fun vs H Q _ => ∃ (S l W t : Addr) (words tk : List Str) (F : Key → Option V) (many : Nat), vs = [.ref S, .int (many : Int)] ∧ Sta H S l W words F ∧ F (.inr "taken") = some (.ref t) ∧ H t = some (.lst (tk.map V.str)) ∧ W ≠ t ∧
  (∀ x ∈ tk, NameOk x) ∧ tk.length ≤ 100 ∧ many ≤ 30 ∧
  ∀ (v : V) (c : Clm) (tk' : List Str) (H' : Hp), Dp K H' v c.d → Drawn c → c.hs.length = many → Kp [l, t] H H' → Pool H' l → H' t = some (.lst (tk'.map V.str)) → tk'.length ≤ tk.length + many → (∀ x ∈ tk', NameOk x) → Q v H'
theorem ok_claim (T : Tx K w mg) {k : Nat} : FnOk P w K mg base CX0 (k + 5) T.a__law_claim T.d__law_claim ["state", "many"] (spClaim K) := by
  have G__law_next := ok_next (P := P) (base := base) T (k := k + 3)
  have G__law_new_name := ok_new_name (P := P) (base := base) T (k := k + 2)
  have G__law_sentence := ok_sent (P := P) (base := base) T (k + 3)
  refine T.F__law_claim.ok sc__law_claim (fun vs H Q E h => ?_) (fun cdv A outer s H vs Q E hr h => ?_)
  · obtain ⟨S, l, W, t, words, tk, F, many, rfl, _⟩ := h
    rfl
  obtain ⟨S, l, W, t, words, tk, F, many, rfl, st, ft, ht, wt, tok, tz, mz, q⟩ := h
  have lt : l ≠ t := pool_ne st.pool ht
  have gT : ∀ {Hx : Hp}, Sta Hx S l W words F → DGet Hx S (.str "taken") (some (.ref t)) := fun st => by
    have := st.get (.inr "taken")
    rwa [ft] at this
  refine ⟨_, (pss_cons (ps_set (i := 2) sc__law_claim.nd rfl (Or.inl rfl) (pe_dget (hu_of hr) (pv 0) pe_str (fun _ _ => rfl)))
    (pss_cons (ps_set (i := 3) sc__law_claim.nd rfl (Or.inl rfl) (pe_lstN pa_nil))
    (pss_cons (ps_for PassesOwn.never rfl (pi_range1 (by rfl) T.z_range (pa_cons (pv 1) pa_nil)) (pg_name (i := 4) sc__law_claim.nd rfl (Or.inl rfl))
      (pss_cons (ps_set (i := 5) sc__law_claim.nd rfl (Or.inl rfl) (pe_call (G__law_new_name) hr (by rfl) T.g__law_new_name T.k__law_new_name T.b__law_new_name .nil pass0 (pa_cons (pv 2) (pa_cons (pe_dget (hu_of hr) (pv 0) pe_str (fun _ _ => rfl)) pa_nil))))
      (pss_cons (ps_set (i := 6) sc__law_claim.nd rfl (Or.inl rfl) (pe_call (G__law_sentence) hr (by rfl) T.g__law_sentence T.k__law_sentence T.b__law_sentence .nil pass0 (pa_cons (pv 0) (pa_cons pe_int pa_nil))))
      (C8.pss_cut (ps_if (PW.pt (pw_and (pt_truth (pv 3) (by intro _; rfl)) (pw_and1 (pt_cmpR op_gt (pe_call (G__law_next) hr (by rfl) T.g__law_next T.k__law_next T.b__law_next .nil pass0 (pa_cons (pv 2) (pa_cons pe_int pa_nil))) pe_int (nomark _)))))
        (pss_one (ps_set (i := 6) sc__law_claim.nd rfl (Or.inl rfl) (pe_ix ix_tup (pe_ix ix_list (pv 3) (pe_call (G__law_next) hr (by rfl) T.g__law_next T.k__law_next T.b__law_next .nil pass0 (pa_cons (pv 2) (pa_cons (pe_callB call_len_seq (by rfl) T.z_len (by decide +kernel) (pa_cons (pv 3) pa_nil)) pa_nil))) (fun _ _ => rfl)) pe_int (fun _ _ => rfl))))
        pss_nil)
      (pss_cons (ps_set (i := 7) sc__law_claim.nd rfl (Or.inl rfl) (pe_call (G__law_next) hr (by rfl) T.g__law_next T.k__law_next T.b__law_next .nil pass0 (pa_cons (pv 2) (pa_cons pe_int pa_nil))))
      (pss_cons (ps_set (i := 8) sc__law_claim.nd rfl (Or.inl rfl) (pe_tupN (pa_cons (pe_op op_add pe_int (pe_call (G__law_next) hr (by rfl) T.g__law_next T.k__law_next T.b__law_next .nil pass0 (pa_cons (pv 2) (pa_cons pe_int pa_nil)))) (pa_cons (pe_call (G__law_next) hr (by rfl) T.g__law_next T.k__law_next T.b__law_next .nil pass0 (pa_cons (pv 2) (pa_cons pe_int pa_nil))) pa_nil))))
      (C8.pss_cut (ps_if (pt_cmpR op_lt (pv 7) pe_int (nomark _))
        (pss_one (ps_set (i := 8) sc__law_claim.nd rfl (Or.inl rfl) pe_str))
        (pss_one (ps_if (pt_cmpR op_eq (pv 7) pe_int (nomark _))
          (pss_one (ps_set (i := 8) sc__law_claim.nd rfl (Or.inl rfl) (pe_tupN (pa_cons (pe_op op_add pe_int (pe_call (G__law_next) hr (by rfl) T.g__law_next T.k__law_next T.b__law_next .nil pass0 (pa_cons (pv 2) (pa_cons pe_int pa_nil)))) (pa_cons (pe_call (G__law_next) hr (by rfl) T.g__law_next T.k__law_next T.b__law_next .nil pass0 (pa_cons (pv 2) (pa_cons pe_int pa_nil))) pa_nil)))))
          pss_nil)))
      (pss_one (ps_expr (pe_bm PySem.F.plainAttrs_list PySem.F.slot_list_append PySem.F.type_list_append mt_append (pv 3) (pa_cons (pe_tupN (pa_cons (pv 5) (pa_cons (pv 8) (pa_cons (pv 6) pa_nil)))) pa_nil)))))))))))
    (pss_one (ps_ret (pe_tupN (pa_cons (pe_callTy call_tupleN (by rfl) T.z_tuple (by decide +kernel) (pa_cons (pv 3) pa_nil)) (pa_cons (pe_call (G__law_sentence) hr (by rfl) T.g__law_sentence T.k__law_sentence T.b__law_sentence .nil pass0 (pa_cons (pv 0) (pa_cons pe_int pa_nil))) pa_nil)))))))), ?_⟩
  refine ⟨_, rfl, S, .ref l, rfl, st.gPool, ?_⟩
  refine ⟨Nat.zero_le _, fun H1 L s1 nL hL => ?_⟩
  have st1 := st.sm s1
  have ht1 := s1 _ _ ht
  have lL : l ≠ L := pool_ne (names := []) st1.pool hL
  have tL : t ≠ L := ne_of_none ht nL
  have WL : W ≠ L := ne_of_none st.hw nL
  have SL : S ≠ L := by
    obtain ⟨kvs, h, _⟩ := st.dict
    exact ne_of_none h nL
  refine ⟨_, rfl, (many : Int), rfl, by omega, by omega, ?_⟩
  refine for_range (fun i σ' H' => ∃ (y4 y5 y6 y7 y8 : Option V) (tk' : List Str) (hs : List Hold) (ws : List V), σ' = [some (.ref S), some (.int (many : Int)), some (.ref l), some (.ref L), y4, y5, y6, y7, y8] ∧ Kp [l, t] H H' ∧ Pool H' l ∧ H' t = some (.lst (tk'.map V.str)) ∧
      tk'.length ≤ tk.length + i ∧ (∀ x ∈ tk', NameOk x) ∧ H' L = some (.lst ws) ∧ DpAll K H' ws (hs.map Hold.d) ∧ hs.length = i ∧ (∀ h ∈ hs, h.ok) ∧ (hs.map Hold.nm).Nodup ∧ ∀ h ∈ hs, h.nm ∈ tk')
    ⟨none, none, none, none, none, tk, [], [], rfl, Kp.of s1, st1.pool, ht1, by omega, tok, hL, .nil, rfl, (fun _ m => by cases m), List.nodup_nil, (fun _ m => by cases m)⟩ ?_ ?_
  · rintro i σ' H2 hi ⟨y4, y5, y6, y7, y8, tk', hs, ws, rfl, k2, p2, ht2, lt2, tok2, hL2, hw, lh, hok, hnd, hin⟩
    have hi' : i < many := by omega
    have lw := hw.len
    rw [List.length_map] at lw
    have st2 := st.kp2 ht wt k2 p2
    refine ⟨_, rfl, _, rfl, S, .ref t, rfl, gT st2, l, t, tk', rfl, p2, ht2, tok2, by omega, fun x H3 nx fx k3 p3 ht3 => ?_⟩
    have Lx : L ∉ [l, t] := not2 lL.symm tL.symm
    have hL3 := k3 _ _ Lx hL2
    have st3 := st2.kp2 ht2 wt k3 p3
    have hw3 := Dp.kpAll k3 (p2.lsts2 ht2) _ _ (holds_tu _) hw
    refine ⟨_, rfl, S, l, W, words, F, 2, rfl, by omega, st3, fun v6 s6 H4 a1 a2 a3 k4 p4 => ?_⟩
    have ok6 : s6.ok := ⟨a2, by omega⟩
    have hL4 := k4 _ _ (lone lL.symm) hL3
    have ht4 := k4 _ _ (lone lt.symm) ht3
    have hw4 := Dp.kpAll k4 p3.lsts _ _ (holds_tu _) hw3
    refine ⟨fun σ' H' => ∃ (v : V) (sn : Sn), σ' = [some (.ref S), some (.int (many : Int)), some (.ref l), some (.ref L), some (.int (0 + (i : Int))), some (.str x), some v, y7, y8] ∧ Dp K H' v sn.d ∧ sn.ok ∧ Kp [l] H4 H' ∧ Pool H' l, ?_, ?_⟩
    · refine ⟨_, rfl, _, .inl ⟨_, SqL.of hL4, rfl⟩, iteB (fun e2 => ?_) (fun e2 => ?_)⟩
      · have w0 : 0 < ws.length := by
          cases ws with
          | nil => cases e2
          | cons a r => exact Nat.succ_pos _
        refine ⟨_, rfl, l, 4, rfl, p4, by decide, by decide, fun f H5 f0 f1 k5 p5 => ⟨_, _, rfl, rfl, _, rfl, iteB (fun _ => ?_) (fun _ => ?_)⟩⟩
        · have hL5 := k5 _ _ (lone lL.symm) hL4
          have hw5 := Dp.kpAll k5 p4.lsts _ _ (holds_tu _) hw4
          refine ⟨_, rfl, _, rfl, _, rfl, L, _, rfl, .inl (SqL.of hL5), l, _, rfl, p5, by omega, by omega, fun g H6 g0 g1 k6 p6 => ?_⟩
          obtain ⟨j, rfl⟩ := Int.eq_ofNat_of_zero_le g0
          have hj : j < ws.length := by omega
          have hL6 := k6 _ _ (lone lL.symm) hL5
          have hw6 := Dp.kpAll k6 p5.lsts _ _ (holds_tu _) hw5
          have hjx : ws[j]? = some ws[j] := List.getElem?_eq_getElem hj
          obtain ⟨h, hh, hz⟩ := hold_get hw6 hjx
          obtain ⟨a, y, z, ea, ha, hy, hzz⟩ := hold_at hz
          refine ⟨L, ws, (j : Int), ws[j], rfl, rfl, SqL.of hL6, atI_nat hjx, a, _, 2, z, ea, rfl, ha, atI_at (j := 2) rfl rfl, ?_⟩
          exact ⟨z, h.sn, rfl, hzz, (hok h (List.mem_of_getElem? hh)).2.2, k5.trans k6, p6⟩
        · exact ⟨v6, s6, rfl, Dp.kp k5 p4.lsts _ _ s6.tu a1, ok6, k5, p5⟩
      · exact ⟨v6, s6, rfl, a1, ok6, Kp.refl _, p4⟩
    rintro σ' H5 ⟨v, sn, rfl, hv5, snok, k5, p5⟩
    have hL5 := k5 _ _ (lone lL.symm) hL4
    have ht5 := k5 _ _ (lone lt.symm) ht4
    have hw5 := Dp.kpAll k5 p4.lsts _ _ (holds_tu _) hw4
    refine ⟨_, rfl, l, 6, rfl, p5, by decide, by decide, fun f H6 f0 f1 k6 p6 => ?_⟩
    refine ⟨_, rfl, l, 3, rfl, p6, by decide, by decide, fun g H7 g0 g1 k7 p7 => ⟨_, _, rfl, rfl, _, rfl, l, 3, rfl, p7, by decide, by decide, fun m H8 m0 m1 k8 p8 => ⟨(by show 2 ≤ 1000; decide), fun H9 c9 s9 n9 h9 => ?_⟩⟩⟩
    have p9 := p8.kp (S := []) (by simp) (Kp.of s9)
    have k59 : Kp [l] H5 H9 := ((k6.trans k7).trans k8).trans (Kp.of s9)
    refine ⟨fun σ' H' => ∃ (u : V) (kd : Kd), σ' = [some (.ref S), some (.int (many : Int)), some (.ref l), some (.ref L), some (.int (0 + (i : Int))), some (.str x), some v, some (.int f), some u] ∧ Dp K H' u kd.d ∧ kd.ok ∧ Kp [l] H9 H' ∧ Pool H' l, ?_, ?_⟩
    · refine ⟨_, rfl, _, _, rfl, rfl, _, rfl, iteB (fun _ => ?_) (fun _ => ?_)⟩
      · exact ⟨.str "once", .once, rfl, .str _, trivial, Kp.refl _, p9⟩
      · refine ⟨_, rfl, rfl, _, rfl, iteB (fun _ => ?_) (fun _ => ?_)⟩
        · refine ⟨_, rfl, l, 200, rfl, p9, by decide, by decide, fun g2 H10 g20 g21 k10 p10 => ⟨_, _, rfl, rfl, _, rfl, l, 101, rfl, p10, by decide, by decide, fun m2 H11 m20 m21 k11 p11 => ⟨(by show 2 ≤ 1000; decide), fun H12 c12 s12 n12 h12 => ?_⟩⟩⟩
          exact ⟨.ref c12, .st (1 + g2) m2, rfl, .tup (SqT.of h12) (.cons (.int _) (.cons (.int _) .nil)), ⟨by omega, by omega, by omega, by omega⟩, (k10.trans k11).trans (Kp.of s12), p11.kp (S := []) (by simp) (Kp.of s12)⟩
        · exact ⟨.ref c9, .st (1 + g) m, rfl, .tup (SqT.of h9) (.cons (.int _) (.cons (.int _) .nil)), ⟨by omega, by omega, by omega, by omega⟩, Kp.refl _, p9⟩
    rintro σ' H10 ⟨u, kd, rfl, hu, kok, k10, p10⟩
    have k510 : Kp [l] H5 H10 := k59.trans k10
    have hL10 := k510 _ _ (lone lL.symm) hL5
    have ht10 := k510 _ _ (lone lt.symm) ht5
    have hw10 := Dp.kpAll k510 p5.lsts _ _ (holds_tu _) hw5
    have hv10 := Dp.kp k510 p5.lsts _ _ sn.tu hv5
    refine ⟨_, rfl, .inl ⟨rfl, _, SqL.of hL10⟩, _, rfl, _, rfl, _, rfl, (by show 3 ≤ 1000; decide), fun H11 r s11 nr hr11 => ?_⟩
    have hL11 := s11 _ _ hL10
    refine ⟨L, ws, _, rfl, rfl, hL11, sz_lt (by omega), ?_⟩
    have p11 := p10.kp (S := []) (by simp) (Kp.of s11)
    have k211 : Kp [l, t] H2 H11 := k3.trans ((((k4.trans k5).trans k510).trans (Kp.of s11)).mono fun z m => by rw [List.mem_singleton.mp m]; exact .head _)
    have nx' : ∀ h ∈ hs, h.nm ≠ x := fun h m e => fx (e ▸ hin h m)
    refine ⟨_, _, _, _, _, tk' ++ [x], hs ++ [⟨x, kd, sn⟩], _, rfl, (k2.trans k211).mut nL, p11.kp (S := [L]) (lone lL) (Kp.wr (.head _)), by rw [upd_ne tL]; exact s11 _ _ ht10, ?_, all_snoc tok2 nx, upd_same, ?_, ?_, all_snoc hok ⟨nx, kok, snok⟩, ?_, ?_⟩
    · rw [List.length_append]; show tk'.length + 1 ≤ _; omega
    · rw [List.map_append]
      exact grown hL11 (Dp.smAll s11 _ _ hw10) (.tup (SqT.of hr11) (.cons (.str _) (.cons (Dp.sm s11 _ _ hu) (.cons (Dp.sm s11 _ _ hv10) .nil)))) (holds_tu _) (Hold.tu _)
    · rw [List.length_append]; show hs.length + 1 = _; omega
    · rw [List.map_append]
      refine List.nodup_append.mpr ⟨hnd, by simp, fun a ha b hb => ?_⟩
      rintro rfl
      obtain ⟨h, hm, e⟩ := List.mem_map.mp ha
      have : a = x := by simpa using hb
      exact nx' h hm (e.trans this)
    · intro h m
      rcases List.mem_append.mp m with m | m
      · exact List.mem_append_left _ (hin h m)
      · rw [List.mem_singleton.mp m]
        exact List.mem_append_right _ (.head _)
  · rintro σ' H2 ⟨y4, y5, y6, y7, y8, tk', hs, ws, rfl, k2, p2, ht2, lt2, tok2, hL2, hw, lh, hok, hnd, hin⟩
    have st2 := st.kp2 ht wt k2 p2
    have nm : (many : Int).toNat = many := by omega
    rw [nm] at lt2 lh
    refine ⟨_, rfl, L, ws, rfl, .inl (SqL.of hL2), fun H3 b s3 hb => ?_⟩
    have st3 := st2.sm s3
    refine ⟨_, rfl, S, l, W, words, F, 2, rfl, by omega, st3, fun v6 s6 H4 a1 a2 a3 k4 p4 => ⟨(by show 2 ≤ 1000; decide), fun H5 r s5 nr hr5 => ?_⟩⟩
    refine q _ ⟨hs, s6⟩ tk' H5 (clm_mk (SqT.of hr5) (s5.seqT (k4.seqT st3.pool.lsts hb)) (Dp.smAll s5 _ _ (Dp.kpAll k4 st3.pool.lsts _ _ (holds_tu _) (Dp.smAll s3 _ _ hw))) (Dp.sm s5 _ _ a1)) ⟨hok, hnd, a3⟩ lh ?_ (p4.kp (S := []) (by simp) (Kp.of s5)) ?_ lt2 tok2
    · exact k2.trans ((((Kp.of s3).trans k4).trans (Kp.of s5)).mono fun z m => by rw [List.mem_singleton.mp m]; exact .head _)
    · exact s5 _ _ (k4 _ _ (lone lt.symm) (s3 _ _ ht2))
/-- stock holds of one sentence -/
def Grp (c : Clm) (g : List Str) : Prop := g.Nodup ∧ ∃ sn : Sn, ∀ x ∈ g, ∃ h, c.row x = some h ∧ h.kd ≠ .once ∧ h.sn = sn
theorem row_nd {c : Clm} (nd : (c.hs.map Hold.nm).Nodup) {h : Hold} (m : h ∈ c.hs) : c.row h.nm = some h := by
  obtain ⟨l, g⟩ := c
  change h ∈ l at m
  change (l.map Hold.nm).Nodup at nd
  induction l with
  | nil => cases m
  | cons a l ih =>
    rw [row_cons]
    obtain ⟨n1, n2⟩ := List.nodup_cons.mp (show (a.nm :: l.map Hold.nm).Nodup from nd)
    rcases List.mem_cons.mp m with rfl | m
    · rw [if_pos rfl]
    · rw [if_neg fun e => n1 (by rw [e]; exact List.mem_map.mpr ⟨h, m, rfl⟩)]
      exact ih m n2
/-- the names of the stock holds of a sentence -/
noncomputable def kin (sn : Sn) (l : List Hold) : List Str := (l.filter fun h => !decide (h.kd = .once) && decide (h.sn = sn)).map Hold.nm
theorem kin_grp {c : Clm} (nd : (c.hs.map Hold.nm).Nodup) (sn : Sn) : Grp c (kin sn c.hs) := by
  refine ⟨nd.sublist (List.filter_sublist.map _), sn, fun x m => ?_⟩
  obtain ⟨h, hm, rfl⟩ := List.mem_map.mp m
  obtain ⟨h1, h2⟩ := List.mem_filter.mp hm
  rw [Bool.and_eq_true, Bool.not_eq_true', decide_eq_false_iff_not, decide_eq_true_iff] at h2
  exact ⟨h, row_nd nd h1, h2.1, h2.2⟩
def spGroup (K : PySem.W.Frag) : Sp := fun vs H Q _ => ∃ (v : V) (c : Clm), vs = [v] ∧ Dp K H v c.d ∧ Drawn c ∧ c.hs.length ≤ 30 ∧ ∀ H' p (g : List Str), Same H H' → H p = none → H' p = some (.lst (g.map V.str)) → Grp c g → g.length ≤ 30 → (∀ x ∈ g, NameOk x) → Q (.ref p) H'
theorem ok_group (T : Tx K w mg) {k : Nat} : FnOk P w K mg base CX0 (k + 1) T.a__law_group T.d__law_group ["claim"] (spGroup K) := by
  refine T.F__law_group.ok sc__law_group (fun vs H Q E h => ?_) (fun cdv A outer s H vs Q E hr h => ?_)
  · obtain ⟨v, c, rfl, _⟩ := h
    rfl
  obtain ⟨v, c, rfl, hv, dr, few, q⟩ := h
  obtain ⟨a, b, u, xs, rfl, ha, hb, hx, hu⟩ := clm_at hv
  have lx := hx.len
  rw [List.length_map] at lx
  have kinN : ∀ sn, ∀ x ∈ kin sn c.hs, NameOk x := fun sn x m => by
    obtain ⟨h, hm, rfl⟩ := List.mem_map.mp m
    exact (dr.hold h (List.mem_filter.mp hm).1).1
  refine ⟨_, (pss_cons (ps_set (i := 1) sc__law_group.nd rfl (Or.inl rfl) (pe_lstN pa_nil))
    (pss_cons (ps_for PassesOwn.never rfl (pi_tup (pe_ix ix_tup (pv 0) pe_int (fun _ _ => rfl))) (pg_name (i := 2) sc__law_group.nd rfl (Or.inr rfl))
      (pss_cons (ps_setLc (i := 3) (own := [("other", 4)]) (g := gName 4) rfl sc__law_group.nd rfl rfl (sw_true rfl rfl rfl (by decide +kernel)) (pi_tup (pe_ix ix_tup (pv 0) pe_int (fun _ _ => rfl))) (blkOk_by (own := [("other", 4)]) (N := N__law_group) (sc := defScope s__law_group) (by decide +kernel)) (fun _ _ _ _ _ => pg_name (i := 4) sc__law_group.nd rfl (Or.inl rfl)) (fun _ _ _ _ _ => pts_one (PW.pt (pw_and (pt_cmpR (op_neDK (K := K) rfl hr.units) (pe_ix (ix_tupK (K := K) rfl) (pv 4) pe_int (fun _ _ => rfl)) pe_str (nomark _)) (pw_and1 (pt_cmpR (op_eqDK (K := K) rfl hr.units) (pe_ix (ix_tupK (K := K) rfl) (pv 4) pe_int (fun _ _ => rfl)) (pe_ix (ix_tupK (K := K) rfl) (pv 2) pe_int (fun _ _ => rfl)) (nomark _)))))) (fun _ _ _ _ _ => (pe_ix (ix_tupK (K := K) rfl) (pv 4) pe_int (fun _ _ => rfl))))
      (pss_one (ps_if (pt_cmpR op_gt (pe_callB call_len_seq (by rfl) T.z_len (by decide +kernel) (pa_cons (pv 3) pa_nil)) (pe_callB call_len_seq (by rfl) T.z_len (by decide +kernel) (pa_cons (pv 1) pa_nil)) (nomark _))
        (pss_one (ps_set (i := 1) sc__law_group.nd rfl (Or.inl rfl) (pv 3)))
        pss_nil))))
    (pss_one (ps_ret (pv 1))))), ?_⟩
  refine ⟨Nat.zero_le _, fun H1 L s1 nL hL => ?_⟩
  refine ⟨_, rfl, a, _, 0, .ref b, rfl, rfl, s1.seqT ha, atI_at (j := 0) rfl rfl, b, rfl, ⟨_, s1.seqT hb⟩, ?_⟩
  refine for_tup (xs := xs) (fun i σ' H' => ∃ (B : Addr) (g : List Str) (y2 y3 y4 : Option V), σ' = [some (.ref a), some (.ref B), y2, y3, y4] ∧ Same H H' ∧ H B = none ∧ H' B = some (.lst (g.map V.str)) ∧ Grp c g ∧ g.length ≤ 30 ∧ ∀ x ∈ g, NameOk x)
    ⟨L, [], none, none, none, rfl, s1, nL, hL, ⟨List.nodup_nil, c.goal, fun _ m => by cases m⟩, Nat.zero_le _, fun _ m => by cases m⟩ ?_ ?_ ?_
  · rintro i σ' H' _ ⟨_, _, _, _, _, _, s', _⟩
    exact s'.seqT hb
  · rintro i z σ' H2 hi ⟨B, g, y2, y3, y4, rfl, s2, nB, hB, grp, lg, gok⟩
    obtain ⟨h, hh, hz⟩ := hold_get hx hi
    have hz2 := Dp.sm s2 _ _ hz
    obtain ⟨p, yk, ys, rfl, hp, hk, hs⟩ := hold_at hz2
    have hhm := List.mem_of_getElem? hh
    have sh := (dr.hold h hhm).2.2.sh
    refine ⟨_, rfl, a, _, 0, .ref b, rfl, rfl, s2.seqT ha, atI_at (j := 0) rfl rfl, b, rfl, ⟨_, s2.seqT hb⟩, fun D nD => ?_⟩
    refine lc_tup (xs := xs) (fun j H3 => Same H2 H3 ∧ H3 D = some (.lst ((kin h.sn (c.hs.take j)).map V.str)))
      ⟨Same.new nD, upd_same⟩ (fun j H3 _ pv => pv.1.seqT (s2.seqT hb)) (fun j zj H3 hj pv => ?_) fun H3 pv => ?_
    · obtain ⟨s3, hD⟩ := pv
      obtain ⟨o, ho, hzo⟩ := hold_get hx hj
      have hz3 := Dp.sm (s2.trans s3) _ _ hzo
      obtain ⟨po, yo, so, rfl, hpo, hko, hso⟩ := hold_at hz3
      have sho := (dr.hold o (List.mem_of_getElem? ho)).2.2.sh
      have et : (c.hs.take (j + 1)) = c.hs.take j ++ [o] := by rw [List.take_add_one, ho]; rfl
      have lk : (kin h.sn (c.hs.take j)).length ≤ 100000 := by
        have h2 := List.length_filter_le (fun h' : Hold => !decide (h'.kd = .once) && decide (h'.sn = h.sn)) (c.hs.take j)
        unfold kin
        rw [List.length_map]
        rw [List.length_take] at h2
        omega
      have ek : kin h.sn (c.hs.take (j + 1)) = kin h.sn (c.hs.take j) ++ (if (!decide (o.kd = .once) && decide (o.sn = h.sn)) = true then [o.nm] else []) := by
        rw [et]
        unfold kin
        rw [List.filter_append, List.map_append, List.filter_cons]
        by_cases cc : (!decide (o.kd = .once) && decide (o.sn = h.sn)) = true
        · rw [if_pos cc, if_pos cc]; rfl
        · rw [if_neg cc, if_neg cc]; rfl
      have skip : (!decide (o.kd = .once) && decide (o.sn = h.sn)) = false → Same H2 H3 ∧ H3 D = some (.lst ((kin h.sn (c.hs.take (j + 1))).map V.str)) := fun e => by
        rw [ek, e, if_neg (by decide), List.append_nil]
        exact ⟨s3, hD⟩
      refine ⟨rfl, _, rfl, po, _, 1, yo, rfl, rfl, hpo, atI_at (j := 1) rfl rfl, o.kd.d, .str "once", hko, .str _, shaped_kd _, shaped_once, _, rfl, ?_⟩
      rw [eqv_once]
      refine iteB (fun c1 => ?_) (fun c1 => iteF (skip (by rw [c1]; rfl)))
      refine ⟨_, rfl, po, _, 2, so, rfl, rfl, hpo, atI_at (j := 2) rfl rfl, _, rfl, p, _, 2, ys, rfl, rfl, s3.seqT hp, atI_at (j := 2) rfl rfl, o.sn.d, h.sn.d, hso, Dp.sm s3 _ _ hs, sho, sh, _, rfl, ?_⟩
      rw [sn_eqv]
      refine iteB (fun c2 => ?_) (fun c2 => skip (by rw [c1, c2]; rfl))
      refine ⟨_, rfl, po, _, 0, .str o.nm, rfl, rfl, hpo, atI_at (j := 0) rfl rfl, _, hD, sz_lt (by rw [List.length_map]; exact lk), Same.mut s3 nD, ?_⟩
      rw [upd_same, ek, if_pos (by rw [c1, c2]; rfl), List.map_append]
      rfl
    · obtain ⟨s3, hD⟩ := pv
      rw [lx, List.take_length] at hD
      have s23 := s2.trans s3
      have nD0 := s2.free nD
      have lk : (kin h.sn c.hs).length ≤ 30 := by
        have h2 := List.length_filter_le (fun h' : Hold => !decide (h'.kd = .once) && decide (h'.sn = h.sn)) c.hs
        unfold kin
        rw [List.length_map]
        omega
      refine ⟨_, rfl, D, _, rfl, .inl (SqL.of hD), _, rfl, B, _, rfl, .inl (SqL.of (s3 _ _ hB)), _, _, rfl, rfl, _, rfl, iteB (fun _ => ?_) (fun _ => ?_)⟩
      · exact ⟨_, rfl, D, _, _, _, _, rfl, s23, nD0, hD, kin_grp dr.nd _, lk, kinN _⟩
      · exact ⟨B, g, _, _, _, rfl, s23, nB, s3 _ _ hB, grp, lg, gok⟩
  · rintro σ' H2 ⟨B, g, y2, y3, y4, rfl, s2, nB, hB, grp, lg, gok⟩
    exact ⟨_, rfl, q H2 B g s2 nB hB grp lg gok⟩
end
end HA

/-! What a script draws. -/
namespace HA
open PySem PySem.Spec PyProof.Rows L2 HX
theorem cut_to' (xs : List V) (k : Nat) : cutV xs none (some (k : Int)) = xs.take k := by
  by_cases h : k ≤ xs.length
  · exact cut_to xs k h
  · unfold cutV
    rw [HT.sIx_nat, HT.sIx_none, Nat.min_eq_right (by omega), List.drop_zero, Nat.sub_zero, List.take_length, List.take_of_length_le (by omega)]
theorem kS {H H' : Hp} {l t : Addr} {xs : List Str} (p : Pool H l) (k : Kp [l] H H') (h : H t = some (.lst (xs.map V.str))) : H' t = some (.lst (xs.map V.str)) := k _ _ (lone (pool_ne p h).symm) h
theorem kDk {H H' : Hp} {l t : Addr} {kvs : List (Key × V)} (p : Pool H l) (k : Kp [l] H H') (h : H t = some (.dK kvs)) : H' t = some (.dK kvs) := by
  obtain ⟨xs, e⟩ := p.lst
  exact k _ _ (lone (ne_of h e (by intro z; cases z))) h
theorem lst_dk {H : Hp} {l t : Addr} {xs : List V} {kvs : List (Key × V)} (h : H l = some (.lst xs)) (k : H t = some (.dK kvs)) : l ≠ t := ne_of h k (by intro z; cases z)
theorem none2 {H : Hp} {a b : Addr} (x : H a = none) (y : H b = none) : ∀ z ∈ [a, b], H z = none := fun z m => by
  rcases List.mem_cons.mp m with rfl | m
  · exact x
  · rw [List.mem_singleton.mp m]; exact y
def kvA (p w t n : V) : List (Key × V) := [(.inr "pool", p), (.inr "forms", .str "ms"), (.inr "words", w), (.inr "taken", t), (.inr "times", n)]
def kvB (p w t n r : V) : List (Key × V) := [(.inr "pool", p), (.inr "forms", .str "ms"), (.inr "words", w), (.inr "taken", t), (.inr "times", n), (.inr "refs", r)]
def kvC (p w t n r b : V) : List (Key × V) := [(.inr "pool", p), (.inr "forms", .str "ms"), (.inr "words", w), (.inr "taken", t), (.inr "times", n), (.inr "refs", r), (.inr "budget", b)]
def kvD (p w t n r b c m g : V) : List (Key × V) := [(.inr "pool", p), (.inr "forms", .str "ms"), (.inr "words", w), (.inr "taken", t), (.inr "times", n), (.inr "refs", r), (.inr "budget", b), (.inr "claim", c), (.inr "names", m), (.inr "group", g)]
theorem Grp.rot {c : Clm} {g : List Str} (h : Grp c g) (n : Nat) : Grp c (g.drop n ++ g.take n) := by
  have pm : (g.drop n ++ g.take n).Perm g := by
    have := List.perm_append_comm (l₁ := g.drop n) (l₂ := g.take n)
    rwa [List.take_append_drop] at this
  exact ⟨pm.nodup_iff.mpr h.1, h.2.imp fun sn k x m => k x (pm.mem_iff.mp m)⟩
/-- the dict that a script has drawn -/
structure StE (K : PySem.W.Frag) (H : Hp) (S l Nm G : Addr) (names group : List Str) (vc vt : V) (c : Clm) (t : Row) (times : Nat) : Prop where
  dict : ∃ kvs, H S = some (.dK kvs) ∧ valV kvs (.inr "pool") = some (.ref l) ∧ valV kvs (.inr "names") = some (.ref Nm) ∧ valV kvs (.inr "group") = some (.ref G) ∧ valV kvs (.inr "claim") = some vc ∧ valV kvs (.inr "tree") = some vt ∧ valV kvs (.inr "times") = some (.int (times : Int))
  pool : Pool H l
  hn : H Nm = some (.lst (names.map V.str))
  hg : H G = some (.lst (group.map V.str))
  hc : Dp K H vc c.d
  ht : Dp K H vt t.d
  n0 : 0 < names.length
  nz : names.length ≤ 1000
  dr : Drawn c
  few : c.hs.length ≤ 30
  grp : Grp c group
  gz : group.length ≤ 30
  tok : t.ok
  th : t.ht ≤ 59
  tz : t.sz ≤ 1000
  td : t.d.depth ≤ 70
  tm : times ≤ 5
theorem StE.kp {K : PySem.W.Frag} {H H' : Hp} {S l Nm G : Addr} {names group : List Str} {vc vt : V} {c : Clm} {t : Row} {times : Nat} (st : StE K H S l Nm G names group vc vt c t times) (k : Kp [l] H H') (p : Pool H' l) : StE K H' S l Nm G names group vc vt c t times := by
  obtain ⟨kvs, h, r⟩ := st.dict
  exact ⟨⟨kvs, kDk st.pool k h, r⟩, p, kS st.pool k st.hn, kS st.pool k st.hg, Dp.kp k st.pool.lsts _ _ c.tu st.hc, Dp.kp k st.pool.lsts _ _ t.tu st.ht, st.n0, st.nz, st.dr, st.few, st.grp, st.gz, st.tok, st.th, st.tz, st.td, st.tm⟩
theorem StE.sm {K : PySem.W.Frag} {H H' : Hp} {S l Nm G : Addr} {names group : List Str} {vc vt : V} {c : Clm} {t : Row} {times : Nat} (st : StE K H S l Nm G names group vc vt c t times) (s : Same H H') : StE K H' S l Nm G names group vc vt c t times := st.kp (Kp.of s) (st.pool.kp (S := []) (by simp) (Kp.of s))
section
variable {P : Program} {w : World} {K : PySem.W.Frag} {mg : Str → Option Value} {base : Heap}
def spBegin (K : PySem.W.Frag) : Sp := fun vs H Q _ => ∃ (a : Addr) (ns : List Int), vs = [.ref a] ∧ SqL K H a (ns.map V.int) ∧
  ∀ H' S l Nm G names group vc vt c t times, StE K H' S l Nm G names group vc vt c t times → Q (.ref S) H'
theorem ok_begin (T : Tx K w mg) {k : Nat} : FnOk P w K mg base CX0 (k + 71) T.a__law_begin T.d__law_begin ["script"] (spBegin K) := by
  have G__law_next := ok_next (P := P) (base := base) T (k := k + 69)
  have G__law_new_name := ok_new_name (P := P) (base := base) T (k := k + 68)
  have G__law_pool := ok_pool (P := P) (base := base) T (k := k + 68)
  have G__law_claim := ok_claim (P := P) (base := base) T (k := k + 65)
  have G__law_group := ok_group (P := P) (base := base) T (k := k + 69)
  have G__law_free := ok_free (P := P) (base := base) T (k + 66)
  refine T.F__law_begin.ok sc__law_begin (fun vs H Q E h => ?_) (fun cdv A outer s H vs Q E hr h => ?_)
  · obtain ⟨a, ns, rfl, _⟩ := h
    rfl
  obtain ⟨a, ns, rfl, ha, q⟩ := h
  refine ⟨_, (pss_cons (ps_set (i := 1) sc__law_begin.nd rfl (Or.inr rfl) (pe_call (G__law_pool) hr (by rfl) T.g__law_pool T.k__law_pool T.b__law_pool .nil pass0 (pa_cons (pv 0) (pa_cons pe_int pa_nil))))
    (pss_cons (ps_set (i := 2) sc__law_begin.nd rfl (Or.inr rfl) (pe_lstN pa_nil))
    (pss_cons (ps_setLc (i := 3) (own := [("k", 12)]) (g := gName 12) rfl sc__law_begin.nd rfl rfl (sw_true rfl rfl rfl (by decide +kernel)) (pi_range1 (by rfl) T.z_range (pa_cons (pe_op op_add pe_int (pe_call (G__law_next) hr (by rfl) T.g__law_next T.k__law_next T.b__law_next .nil pass0 (pa_cons (pv 1) (pa_cons pe_int pa_nil)))) pa_nil)) (blkOk_by (own := [("k", 12)]) (N := N__law_begin) (sc := defScope s__law_begin) (by decide +kernel)) (fun _ _ _ _ _ => pg_name (i := 12) sc__law_begin.nd rfl (Or.inl rfl)) (fun _ _ _ _ _ => pts_nil) (fun _ _ _ _ _ => (pe_call (G__law_new_name) hr (by rfl) T.g__law_new_name T.k__law_new_name T.b__law_new_name .nil pass0 (pa_cons (pv 1) (pa_cons (pv 2) pa_nil)))))
    (pss_cons (ps_set (i := 4) sc__law_begin.nd rfl (Or.inr rfl) (pe_disp (pps_cons pe_str (pv 1) (pps_cons pe_str pe_str (pps_cons pe_str (pv 3) (pps_cons pe_str (pe_lstN pa_nil) (pps_cons pe_str pe_int pps_nil))))) (by rfl) (by rfl) (fun z => by cases z) (by decide)))
    (pss_cons (ps_set (i := 5) sc__law_begin.nd rfl (Or.inl rfl) (pe_call (G__law_next) hr (by rfl) T.g__law_next T.k__law_next T.b__law_next .nil pass0 (pa_cons (pv 1) (pa_cons pe_int pa_nil))))
    (C8.pss_cut (ps_if (pt_cmpR op_eq (pe_call (G__law_next) hr (by rfl) T.g__law_next T.k__law_next T.b__law_next .nil pass0 (pa_cons (pv 1) (pa_cons pe_int pa_nil))) pe_int (nomark _))
      (pss_one (ps_set (i := 5) sc__law_begin.nd rfl (Or.inl rfl) pe_int))
      pss_nil)
    (pss_cons (ps_set (i := 6) sc__law_begin.nd rfl (Or.inl rfl) (pe_call (G__law_claim) hr (by rfl) T.g__law_claim T.k__law_claim T.b__law_claim .nil pass0 (pa_cons (pv 4) (pa_cons (pv 5) pa_nil))))
    (pss_cons (ps_set (i := 1) sc__law_begin.nd rfl (Or.inr rfl) (pe_call (G__law_pool) hr (by rfl) T.g__law_pool T.k__law_pool T.b__law_pool .nil pass0 (pa_cons (pv 0) (pa_cons pe_int pa_nil))))
    (pss_cons (ps_dput (hu_of hr) (pv 4) pe_str (pv 1) rfl)
    (pss_cons (ps_setLc (i := 7) (own := [("k", 12)]) (g := gName 12) rfl sc__law_begin.nd rfl rfl (sw_true rfl rfl rfl (by decide +kernel)) (pi_range1 (by rfl) T.z_range (pa_cons (pe_op op_add pe_int (pe_call (G__law_next) hr (by rfl) T.g__law_next T.k__law_next T.b__law_next .nil pass0 (pa_cons (pv 1) (pa_cons pe_int pa_nil)))) pa_nil)) (blkOk_by (own := [("k", 12)]) (N := N__law_begin) (sc := defScope s__law_begin) (by decide +kernel)) (fun _ _ _ _ _ => pg_name (i := 12) sc__law_begin.nd rfl (Or.inl rfl)) (fun _ _ _ _ _ => pts_nil) (fun _ _ _ _ _ => (pe_call (G__law_new_name) hr (by rfl) T.g__law_new_name T.k__law_new_name T.b__law_new_name .nil pass0 (pa_cons (pv 1) (pa_cons (pe_dget (hu_of hr) (pv 4) pe_str (fun _ _ => rfl)) pa_nil)))))
    (pss_cons (ps_set (i := 8) sc__law_begin.nd rfl (Or.inr rfl) (pe_op op_catL (pe_lc (own := [("row", 13)]) (g := gName 13) rfl sc__law_begin.nd (pi_tup (pe_ix ix_tup (pv 6) pe_int (fun _ _ => rfl))) (blkOk_by (own := [("row", 13)]) (N := N__law_begin) (sc := defScope s__law_begin) (by decide +kernel)) (fun _ _ _ _ _ => pg_name (i := 13) sc__law_begin.nd rfl (Or.inl rfl)) (fun _ _ _ _ _ => pts_nil) (fun _ _ _ _ _ => (pe_ix (ix_tupK (K := K) rfl) (pv 13) pe_int (fun _ _ => rfl)))) (pv 7)))
    (pss_cons (ps_set (i := 9) sc__law_begin.nd rfl (Or.inl rfl) (pe_call (G__law_group) hr (by rfl) T.g__law_group T.k__law_group T.b__law_group .nil pass0 (pa_cons (pv 6) pa_nil)))
    (C8.pss_cut (ps_if (pt_truth (pv 9) (by intro _; rfl))
      (pss_cons (ps_set (i := 10) sc__law_begin.nd rfl (Or.inl rfl) (pe_call (G__law_next) hr (by rfl) T.g__law_next T.k__law_next T.b__law_next .nil pass0 (pa_cons (pv 1) (pa_cons (pe_callB call_len_seq (by rfl) T.z_len (by decide +kernel) (pa_cons (pv 9) pa_nil)) pa_nil))))
      (pss_one (ps_set (i := 9) sc__law_begin.nd rfl (Or.inl rfl) (pe_op op_catL (pe_slice sl_listN (pv 9) (po_some (pv 10)) po_none) (pe_slice sl_listN (pv 9) po_none (po_some (pv 10)))))))
      pss_nil)
    (pss_cons (ps_dput (hu_of hr) (pv 4) pe_str (pe_op op_catL (pe_slice sl_listN (pv 9) po_none (po_some pe_int)) (pe_lc (own := [("k", 12)]) (g := gName 12) rfl sc__law_begin.nd (pi_range1 (by rfl) T.z_range (pa_cons (pe_op op_add pe_int (pe_call (G__law_next) hr (by rfl) T.g__law_next T.k__law_next T.b__law_next .nil pass0 (pa_cons (pv 1) (pa_cons pe_int pa_nil)))) pa_nil)) (blkOk_by (own := [("k", 12)]) (N := N__law_begin) (sc := defScope s__law_begin) (by decide +kernel)) (fun _ _ _ _ _ => pg_name (i := 12) sc__law_begin.nd rfl (Or.inl rfl)) (fun _ _ _ _ _ => pts_nil) (fun _ _ _ _ _ => (pe_ix (ix_listK (K := K) rfl) (pv 8) (pe_call (G__law_next) hr (by rfl) T.g__law_next T.k__law_next T.b__law_next .nil pass0 (pa_cons (pv 1) (pa_cons (pe_callB (call_len_seqK (K := K) rfl) (by rfl) T.z_len (by decide +kernel) (pa_cons (pv 8) pa_nil)) pa_nil))) (fun _ _ => rfl))))) rfl)
    (pss_cons (ps_dput (hu_of hr) (pv 4) pe_str (pe_op op_catL (pv 3) (pe_lc (own := [("k", 12)]) (g := gName 12) rfl sc__law_begin.nd (pi_range1 (by rfl) T.z_range (pa_cons (pe_call (G__law_next) hr (by rfl) T.g__law_next T.k__law_next T.b__law_next .nil pass0 (pa_cons (pv 1) (pa_cons pe_int pa_nil))) pa_nil)) (blkOk_by (own := [("k", 12)]) (N := N__law_begin) (sc := defScope s__law_begin) (by decide +kernel)) (fun _ _ _ _ _ => pg_name (i := 12) sc__law_begin.nd rfl (Or.inl rfl)) (fun _ _ _ _ _ => pts_nil) (fun _ _ _ _ _ => (pe_ix (ix_listK (K := K) rfl) (pv 8) (pe_call (G__law_next) hr (by rfl) T.g__law_next T.k__law_next T.b__law_next .nil pass0 (pa_cons (pv 1) (pa_cons (pe_callB (call_len_seqK (K := K) rfl) (by rfl) T.z_len (by decide +kernel) (pa_cons (pv 8) pa_nil)) pa_nil))) (fun _ _ => rfl))))) rfl)
    (pss_cons (ps_set (i := 11) sc__law_begin.nd rfl (Or.inl rfl) (pe_call (G__law_next) hr (by rfl) T.g__law_next T.k__law_next T.b__law_next .nil pass0 (pa_cons (pv 1) (pa_cons pe_int pa_nil))))
    (pss_cons (ps_dput (hu_of hr) (pv 4) pe_str (pe_op op_add pe_int (pe_call (G__law_next) hr (by rfl) T.g__law_next T.k__law_next T.b__law_next .nil pass0 (pa_cons (pv 1) (pa_cons pe_int pa_nil)))) rfl)
    (C8.pss_cut (ps_if (pt_cmpR op_eq (pv 11) pe_int (nomark _))
      (pss_cons (ps_dput (hu_of hr) (pv 4) pe_str pe_int rfl)
      (pss_one (ps_dput (hu_of hr) (pv 4) pe_str pe_int rfl)))
      (pss_one (ps_if (pt_cmpR op_lt (pv 11) pe_int (nomark _))
        (pss_one (ps_dput (hu_of hr) (pv 4) pe_str pe_int rfl))
        pss_nil)))
    (pss_cons (ps_dput (hu_of hr) (pv 4) pe_str (pv 6) rfl)
    (pss_cons (ps_dput (hu_of hr) (pv 4) pe_str (pv 8) rfl)
    (pss_cons (ps_dput (hu_of hr) (pv 4) pe_str (pv 9) rfl)
    (pss_cons (ps_dput (hu_of hr) (pv 4) pe_str (pe_call (G__law_free) hr (by rfl) T.g__law_free T.k__law_free T.b__law_free .nil pass0 (pa_cons (pv 4) (pa_cons pe_int (pa_cons pe_int (pa_cons pe_int pa_nil))))) rfl)
    (pss_one (ps_ret (pv 4))))))))))))))))))))))))), ?_⟩
  -- pool, named
  refine ⟨_, rfl, a, ns, 0, rfl, ha, fun H1 l s1 nl p1 => ?_⟩
  refine ⟨Nat.zero_le _, fun H2 N s2 nN hN => ?_⟩
  have p2 := p1.kp (S := []) (by simp) (Kp.of s2)
  have lN : l ≠ N := pool_ne (names := []) p2 hN
  have nN0 : H N = none := s1.free nN
  -- words
  refine ⟨_, rfl, l, 4, rfl, p2, by decide, by decide, fun d H3 d0 d1 k3 p3 => ⟨_, _, rfl, rfl, 1 + d, rfl, by omega, by omega, fun W nW => ?_⟩⟩
  obtain ⟨cw, rfl⟩ := Int.eq_ofNat_of_zero_le d0
  rw [show (1 + (cw : Int)).toNat = cw + 1 by omega]
  have hN3 := k3 _ _ (lone lN.symm) hN
  have s03 : Same H H3 := (s1.trans s2).kp k3 nl
  have nW0 := s03.free nW
  have lW : l ≠ W := by
    obtain ⟨xs, e⟩ := p3.lst
    exact ne_of_none e nW
  have NW : N ≠ W := ne_of_none hN3 nW
  refine lc_range (fun i H' => Same H H' ∧ Pool H' l ∧ ∃ tk acc : List Str, H' N = some (.lst (tk.map V.str)) ∧ H' W = some (.lst (acc.map V.str)) ∧ tk.length ≤ i ∧ acc.length = i ∧ (∀ x ∈ tk, NameOk x) ∧ ∀ x ∈ acc, NameOk x)
    ⟨s03.trans (Same.new nW), p3.kp (S := [W]) (lone lW) (Kp.wr (.head _)), [], [], by rw [upd_ne NW]; exact hN3, upd_same, Nat.le_refl _, rfl, (fun _ m => by cases m), (fun _ m => by cases m)⟩ ?_ ?_
  · rintro i H' hi ⟨s', p', tk, acc, hN', hW', lt, la, tn, an⟩
    refine ⟨rfl, _, rfl, _, rfl, l, N, tk, rfl, p', hN', tn, by omega, fun x H4 nx fx k4 p4 hN4 => ⟨_, k4 _ _ (not2 lW.symm NW.symm) hW', sz_lt (by rw [List.length_map]; omega), ?_⟩⟩
    refine ⟨(Same.kps s' k4 (none2 nl nN0)).mut nW0, p4.kp (S := [W]) (lone lW) (Kp.wr (.head _)), tk ++ [x], acc ++ [x], by rw [upd_ne NW]; exact hN4, by rw [upd_same, List.map_append]; rfl, ?_, ?_, all_snoc tn nx, all_snoc an nx⟩
    · rw [List.length_append]; show tk.length + 1 ≤ _; omega
    · rw [List.length_append]; show acc.length + 1 = _; omega
  rintro H4 ⟨s4, p4, tk, words, hN4, hW4, lt, lw, tn, wn⟩
  -- state
  refine fun S nS => ⟨_, rfl, _, rfl, Nat.zero_le _, fun H5 Tk s5 nT hT5 => ⟨s5 _ _ upd_same, kvA (.ref l) (.ref W) (.ref Tk) (.int 5), rfl, (by show 5 ≤ 15; decide), ?_⟩⟩
  rw [show mergeK [] (kvA (.ref l) (.ref W) (.ref Tk) (.int 5)) = kvA (.ref l) (.ref W) (.ref Tk) (.int 5) by rfl]
  have nS0 := s4.free nS
  have s06 : Same H (upd H5 S (.dK (kvA (.ref l) (.ref W) (.ref Tk) (.int 5)))) := (s4.trans ((Same.new nS).trans s5)).mut nS0
  have lS : l ≠ S := by
    obtain ⟨xs, e⟩ := p4.lst
    exact ne_of_none e nS
  have WS : W ≠ S := ne_of_none hW4 nS
  have TS : S ≠ Tk := ne_of_none upd_same nT
  have WT : W ≠ Tk := ne_of_none (show (upd H4 S (.dK [])) W = _ by rw [upd_ne WS]; exact hW4) nT
  have nT0 : H Tk = none := s4.free (by rw [upd_ne TS.symm] at nT; exact nT)
  have p6 : Pool (upd H5 S (.dK (kvA (.ref l) (.ref W) (.ref Tk) (.int 5)))) l := ((p4.kp (S := [S]) (lone lS) (Kp.wr (.head _))).kp (S := []) (by simp) (Kp.of s5)).kp (S := [S]) (lone lS) (Kp.wr (.head _))
  have hW6 : upd H5 S (.dK (kvA (.ref l) (.ref W) (.ref Tk) (.int 5))) W = some (.lst (words.map V.str)) := by
    rw [upd_ne WS]
    refine s5 _ _ ?_
    rw [upd_ne WS]
    exact hW4
  have hT6 : upd H5 S (.dK (kvA (.ref l) (.ref W) (.ref Tk) (.int 5))) Tk = some (.lst (([] : List Str).map V.str)) := by rw [upd_ne TS.symm]; exact hT5
  have hS6 : upd H5 S (.dK (kvA (.ref l) (.ref W) (.ref Tk) (.int 5))) S = some (.dK (kvA (.ref l) (.ref W) (.ref Tk) (.int 5))) := upd_same
  revert s06 p6 hW6 hT6 hS6
  generalize upd H5 S (.dK (kvA (.ref l) (.ref W) (.ref Tk) (.int 5))) = H6
  intro s06 p6 hW6 hT6 hS6
  -- many
  refine ⟨_, rfl, l, 13, rfl, p6, by decide, by decide, fun m H7 m0 m1 k7 p7 => ?_⟩
  obtain ⟨mn, rfl⟩ := Int.eq_ofNat_of_zero_le m0
  refine ⟨fun σ' H' => ∃ many : Nat, σ' = [some (.ref a), some (.ref l), some (.ref N), some (.ref W), some (.ref S), some (.int (many : Int)), none, none, none, none, none, none, none, none] ∧ many ≤ 24 ∧ Kp [l] H7 H' ∧ Pool H' l, ?_, ?_⟩
  · exact ⟨_, rfl, l, 8, rfl, p7, by decide, by decide, fun f H8 f0 f1 k8 p8 => ⟨rfl, _, rfl, iteB (fun _ => ⟨24, rfl, by omega, k8, p8⟩) (fun _ => ⟨mn, rfl, by omega, k8, p8⟩)⟩⟩
  rintro σ' H8 ⟨many, rfl, hm, k78, p8⟩
  have k8 := k7.trans k78
  have hW8 := kS p6 k8 hW6
  have hT8 := kS p6 k8 hT6
  have hS8 := kDk p6 k8 hS6
  have s08 := s06.kp k8 nl
  have n0w : 0 < words.length := by omega
  have st8 : Sta H8 S l W words (valV (kvA (.ref l) (.ref W) (.ref Tk) (.int 5))) := ⟨⟨_, hS8, fun _ => rfl, (by show 5 ≤ 20; decide)⟩, by rfl, by rfl, by rfl, hW8, p8, wn, n0w, by omega, (pool_ne p8 hW8).symm⟩
  -- claim
  refine ⟨_, rfl, _, rfl, S, l, W, Tk, words, [], _, many, rfl, st8, by rfl, hT8, WT, (fun _ m => by cases m), Nat.zero_le _, by omega, fun vc c tk1 H9 hc9 dr lc k9 p9 hT9 ltk tok1 => ?_⟩
  have s09 : Same H H9 := Same.kps s08 k9 (none2 nl nT0)
  have hW9 : H9 W = some (.lst (words.map V.str)) := k9 _ _ (not2 (pool_ne p8 hW8).symm WT) hW8
  have hS9 : H9 S = some (.dK (kvA (.ref l) (.ref W) (.ref Tk) (.int 5))) := k9 _ _ (not2 st8.sl TS) hS8
  have few : c.hs.length ≤ 30 := by omega
  have ltk' : tk1.length ≤ 24 := by
    have : tk1.length ≤ 0 + many := ltk
    omega
  clear ltk
  -- the second pool
  refine ⟨_, rfl, a, ns, 1, rfl, s09.seq ha, fun H10 l2 s10 nl2 p10 => ?_⟩
  have nl20 := s09.free nl2
  have hS10 := s10 _ _ hS9
  refine ⟨_, rfl, _, rfl, S, _, rfl, DPut.k (k := .inr "pool") hS10 (sz_lt (by show 5 ≤ 100000; decide)), ?_⟩
  rw [show putK (kvA (.ref l) (.ref W) (.ref Tk) (.int 5)) (.inr "pool") (.ref l2) = kvA (.ref l2) (.ref W) (.ref Tk) (.int 5) by rfl]
  have l2S : l2 ≠ S := by
    obtain ⟨xs, e⟩ := p10.lst
    exact lst_dk e hS10
  have s011 : Same H (upd H10 S (.dK (kvA (.ref l2) (.ref W) (.ref Tk) (.int 5)))) := (s09.trans s10).mut nS0
  have p11 : Pool (upd H10 S (.dK (kvA (.ref l2) (.ref W) (.ref Tk) (.int 5)))) l2 := p10.kp (S := [S]) (lone l2S) (Kp.wr (.head _))
  have hW11 : upd H10 S (.dK (kvA (.ref l2) (.ref W) (.ref Tk) (.int 5))) W = some (.lst (words.map V.str)) := by rw [upd_ne WS]; exact s10 _ _ hW9
  have hT11 : upd H10 S (.dK (kvA (.ref l2) (.ref W) (.ref Tk) (.int 5))) Tk = some (.lst (tk1.map V.str)) := by rw [upd_ne TS.symm]; exact s10 _ _ hT9
  have hS11 : upd H10 S (.dK (kvA (.ref l2) (.ref W) (.ref Tk) (.int 5))) S = some (.dK (kvA (.ref l2) (.ref W) (.ref Tk) (.int 5))) := upd_same
  have hc11 : Dp K (upd H10 S (.dK (kvA (.ref l2) (.ref W) (.ref Tk) (.int 5)))) vc c.d := dpN (Kp.wr (.head _)) (NT.dict hS10) _ _ c.tu (Dp.sm s10 _ _ hc9)
  revert s011 p11 hW11 hT11 hS11 hc11
  generalize upd H10 S (.dK (kvA (.ref l2) (.ref W) (.ref Tk) (.int 5))) = H11
  intro s011 p11 hW11 hT11 hS11 hc11
  -- ghosts
  refine ⟨_, rfl, l2, 3, rfl, p11, by decide, by decide, fun d2 H12 d20 d21 k12 p12 => ⟨_, _, rfl, rfl, 1 + d2, rfl, by omega, by omega, fun Gh nGh => ?_⟩⟩
  obtain ⟨cg, rfl⟩ := Int.eq_ofNat_of_zero_le d20
  rw [show (1 + (cg : Int)).toNat = cg + 1 by omega]
  have s012 := s011.kp k12 nl20
  have hW12 := kS p11 k12 hW11
  have hT12 := kS p11 k12 hT11
  have hS12 := kDk p11 k12 hS11
  have hc12 := Dp.kp k12 p11.lsts _ _ c.tu hc11
  have nGh0 := s012.free nGh
  have lGh : l2 ≠ Gh := by
    obtain ⟨xs, e⟩ := p12.lst
    exact ne_of_none e nGh
  have TGh : Tk ≠ Gh := ne_of_none hT12 nGh
  have WGh : W ≠ Gh := ne_of_none hW12 nGh
  have SGh : S ≠ Gh := ne_of_none hS12 nGh
  have WT2 : W ≠ Tk := WT
  refine lc_range (fun i H' => Same H H' ∧ Pool H' l2 ∧ H' W = some (.lst (words.map V.str)) ∧ H' S = some (.dK (kvA (.ref l2) (.ref W) (.ref Tk) (.int 5))) ∧ Dp K H' vc c.d ∧ ∃ tk acc : List Str, H' Tk = some (.lst (tk.map V.str)) ∧ H' Gh = some (.lst (acc.map V.str)) ∧ tk.length ≤ 24 + i ∧ acc.length = i ∧ (∀ x ∈ tk, NameOk x) ∧ ∀ x ∈ acc, NameOk x)
    ⟨s012.trans (Same.new nGh), p12.kp (S := [Gh]) (lone lGh) (Kp.wr (.head _)), by rw [upd_ne WGh]; exact hW12, by rw [upd_ne SGh]; exact hS12, Dp.sm (Same.new nGh) _ _ hc12, tk1, [], by rw [upd_ne TGh]; exact hT12, upd_same, by omega, rfl, tok1, (fun _ m => by cases m)⟩ ?_ ?_
  · rintro i H' hi ⟨s', p', hW', hS', hc', tk, acc, hT', hG', lt, la, tn, an⟩
    refine ⟨rfl, _, rfl, _, rfl, S, .ref Tk, rfl, DGet.k (k := .inr "taken") hS', l2, Tk, tk, rfl, p', hT', tn, by omega, fun x H4 nx fx k4 p4 hT4 => ⟨_, k4 _ _ (not2 lGh.symm TGh.symm) hG', sz_lt (by rw [List.length_map]; omega), ?_⟩⟩
    have hc4 := Dp.kp k4 (p'.lsts2 hT') _ _ c.tu hc'
    have hG4 : H4 Gh = some (.lst (acc.map V.str)) := k4 _ _ (not2 lGh.symm TGh.symm) hG'
    refine ⟨(Same.kps s' k4 (none2 nl20 nT0)).mut nGh0, p4.kp (S := [Gh]) (lone lGh) (Kp.wr (.head _)), by rw [upd_ne WGh]; exact k4 _ _ (not2 (pool_ne p' hW').symm WT) hW', by rw [upd_ne SGh]; exact k4 _ _ (not2 l2S.symm TS) hS', Dp.kp (Kp.wr (.head _)) (Lsts.one hG4) _ _ c.tu hc4,
      tk ++ [x], acc ++ [x], by rw [upd_ne TGh]; exact hT4, by rw [upd_same, List.map_append]; rfl, ?_, ?_, all_snoc tn nx, all_snoc an nx⟩
    · rw [List.length_append]; show tk.length + 1 ≤ _; omega
    · rw [List.length_append]; show acc.length + 1 = _; omega
  rintro H13 ⟨s013, p13, hW13, hS13, hc13, tk2, ghosts, hT13, hG13, lt2, lg, tn2, gn⟩
  clear hc12 hT12 hW12 hS12 hc11 hS11 hT11 hW11
  -- names
  obtain ⟨ca, cb, cu, cxs, rfl, hca, hcb, hcx, hcu⟩ := clm_at hc13
  have lcx := hcx.len
  rw [List.length_map] at lcx
  refine ⟨_, rfl, ca, _, 0, .ref cb, rfl, rfl, hca, atI_at (j := 0) rfl rfl, cb, rfl, ⟨_, hcb⟩, fun D nD => ?_⟩
  refine lc_tup (xs := cxs) (fun j H' => Same H13 H' ∧ H' D = some (.lst (((c.hs.take j).map Hold.nm).map V.str))) ⟨Same.new nD, upd_same⟩ (fun j H' _ pv => pv.1.seqT hcb) (fun j z H' hj pv => ?_) fun H14 pv => ?_
  · obtain ⟨s', hD⟩ := pv
    obtain ⟨o, ho, hz⟩ := hold_get hcx hj
    obtain ⟨po, yo, so, rfl, hpo, _, _⟩ := hold_at (Dp.sm s' _ _ hz)
    refine ⟨rfl, _, rfl, po, _, 0, .str o.nm, rfl, rfl, hpo, atI_at (j := 0) rfl rfl, _, hD, sz_lt (by rw [List.length_map, List.length_map, List.length_take]; omega), Same.mut s' nD, ?_⟩
    rw [upd_same, List.take_add_one, ho, List.map_append, List.map_append]
    rfl
  obtain ⟨s14, hD14⟩ := pv
  rw [lcx, List.take_length] at hD14
  refine ⟨_, rfl, D, Gh, _, _, rfl, rfl, hD14, s14 _ _ hG13, sz_le (by rw [List.length_map, List.length_map, List.length_map]; omega), fun H15 Nm s15 nNm hNm => ?_⟩
  rw [← List.map_append] at hNm
  have names : ∃ names : List Str, c.hs.map Hold.nm ++ ghosts = names ∧ (∀ x ∈ names, NameOk x) ∧ 0 < names.length ∧ names.length ≤ 100 := by
    refine ⟨_, rfl, fun x m => ?_, ?_, ?_⟩
    · rcases List.mem_append.mp m with m | m
      · obtain ⟨h, hm, rfl⟩ := List.mem_map.mp m
        exact (dr.hold h hm).1
      · exact gn x m
    · rw [List.length_append]; omega
    · rw [List.length_append, List.length_map]; omega
  obtain ⟨names, en, nok, n0, nz⟩ := names
  rw [en] at hNm
  clear en
  have s1315 := s14.trans s15
  have s015 := s013.trans s1315
  have p15 := p13.kp (S := []) (by simp) (Kp.of s1315)
  have hW15 := s1315 _ _ hW13
  have hS15 := s1315 _ _ hS13
  have hc15 := Dp.sm s1315 _ _ hc13
  -- group
  refine ⟨_, rfl, .ref ca, c, rfl, hc15, dr, few, fun H16 G0 g0 s16 nG hG0 grp0 lg0 gok0 => ?_⟩
  have p16 := p15.kp (S := []) (by simp) (Kp.of s16)
  refine ⟨fun σ' H' => ∃ (G : Addr) (g : List Str) (y : Option V), σ' = [some (.ref a), some (.ref l2), some (.ref N), some (.ref W), some (.ref S), some (.int (many : Int)), some (.ref ca), some (.ref Gh), some (.ref Nm), some (.ref G), y, none, none, none] ∧ Kp [l2] H16 H' ∧ Pool H' l2 ∧ H' G = some (.lst (g.map V.str)) ∧ Grp c g ∧ g.length ≤ 30 ∧ ∀ x ∈ g, NameOk x, ?_, ?_⟩
  · refine ⟨_, rfl, _, .inl ⟨_, SqL.of hG0, rfl⟩, iteB (fun e2 => ?_) (fun e2 => ?_)⟩
    · have w0 : 0 < g0.length := by
        cases g0 with
        | nil => cases e2
        | cons a r => exact Nat.succ_pos _
      refine ⟨_, rfl, _, rfl, G0, _, rfl, .inl (SqL.of hG0), l2, _, rfl, p16, by rw [List.length_map]; omega, by rw [List.length_map]; omega, fun tn H17 t0 t1 k17 p17 => ?_⟩
      obtain ⟨n, rfl⟩ := Int.eq_ofNat_of_zero_le t0
      have hG17 := kS p16 k17 hG0
      refine ⟨_, rfl, _, rfl, _, rfl, G0, _, rfl, SqL.of hG17, fun H18 b1 s18 nb1 hb1 => ?_⟩
      refine ⟨_, rfl, _, rfl, _, rfl, G0, _, rfl, SqL.of (s18 _ _ hG17), fun H19 b2 s19 nb2 hb2 => ?_⟩
      rw [cut_from, ← List.map_drop] at hb1
      rw [cut_to', ← List.map_take] at hb2
      refine ⟨b1, b2, _, _, rfl, rfl, s19 _ _ hb1, hb2, sz_le (by rw [List.length_map, List.length_map, List.length_drop, List.length_take]; omega), fun H20 b3 s20 nb3 hb3 => ?_⟩
      rw [← List.map_append] at hb3
      have s1720 := (s18.trans s19).trans s20
      refine ⟨b3, _, _, rfl, k17.trans (Kp.of s1720), p17.kp (S := []) (by simp) (Kp.of s1720), hb3, grp0.rot n, ?_, fun x m => ?_⟩
      · rw [List.length_append, List.length_drop, List.length_take]; omega
      · rcases List.mem_append.mp m with m | m
        · exact gok0 x (List.mem_of_mem_drop m)
        · exact gok0 x (List.mem_of_mem_take m)
    · exact ⟨G0, g0, none, rfl, Kp.refl _, p16, hG0, grp0, lg0, gok0⟩
  rintro σ' H17 ⟨G, g, y10, rfl, k17, p17, hG17, grp, gz, gok⟩
  have s017 := (s015.trans s16).kp k17 nl20
  have hW17 := kS p16 k17 (s16 _ _ hW15)
  have hS17 := kDk p16 k17 (s16 _ _ hS15)
  have hN17 := kS p16 k17 (s16 _ _ hNm)
  have hc17 := Dp.kp k17 p16.lsts _ _ c.tu (Dp.sm s16 _ _ hc15)
  clear hc15 hS15 hW15 hNm hc13 hS13 hW13
  -- the references
  refine ⟨_, rfl, 3, rfl, G, _, rfl, SqL.of hG17, fun H18 b1 s18 nb1 hb1 => ?_⟩
  rw [show (3 : Int) = ((3 : Nat) : Int) from rfl, cut_to', ← List.map_take] at hb1
  have p18 := p17.kp (S := []) (by simp) (Kp.of s18)
  refine ⟨_, rfl, l2, 5, rfl, p18, by decide, by decide, fun d3 H19 d30 d31 k19 p19 => ⟨_, _, rfl, rfl, 2 + d3, rfl, by omega, by omega, fun D3 nD3 => ?_⟩⟩
  obtain ⟨cr, rfl⟩ := Int.eq_ofNat_of_zero_le d30
  rw [show (2 + (cr : Int)).toNat = cr + 2 by omega]
  have hN19 := kS p18 k19 (s18 _ _ hN17)
  have lD3 : l2 ≠ D3 := by
    obtain ⟨xs, e⟩ := p19.lst
    exact ne_of_none e nD3
  refine lc_range (fun i H' => Kp [l2] H19 H' ∧ Pool H' l2 ∧ ∃ acc : List Str, H' D3 = some (.lst (acc.map V.str)) ∧ acc.length = i) ⟨Kp.new nD3, p19.kp (S := [D3]) (lone lD3) (Kp.wr (.head _)), [], upd_same, rfl⟩ ?_ ?_
  · rintro i H' hi ⟨k', p', acc, hD', la⟩
    have hN' := kS p19 k' hN19
    refine ⟨rfl, _, rfl, _, rfl, _, rfl, Nm, _, rfl, .inl (SqL.of hN'), l2, _, rfl, p', by rw [List.length_map]; omega, by rw [List.length_map]; omega, fun e H2 e0 e1 k2 p2 => ?_⟩
    obtain ⟨x, _, hx⟩ := draw_at e0 e1
    refine ⟨Nm, _, e, .str x, rfl, rfl, SqL.of (kS p' k2 hN'), hx, _, kS p' k2 hD', sz_lt (by rw [List.length_map]; omega), (k'.trans k2).mut nD3, p2.kp (S := [D3]) (lone lD3) (Kp.wr (.head _)), acc ++ [x], by rw [upd_same, List.map_append]; rfl, ?_⟩
    rw [List.length_append]; show acc.length + 1 = _; omega
  rintro H20 ⟨k20, p20, acc3, hD20, la3⟩
  have k1820 := k19.trans k20
  refine ⟨b1, D3, _, _, rfl, rfl, kS p18 k1820 hb1, hD20, sz_le (by rw [List.length_map, List.length_map, List.length_take]; omega), fun H21 R s21 nR hR => ?_⟩
  rw [← List.map_append] at hR
  have refs : ∃ refs : List Str, g.take 3 ++ acc3 = refs ∧ 0 < refs.length ∧ refs.length ≤ 100 := by
    refine ⟨_, rfl, ?_, ?_⟩
    · rw [List.length_append]; omega
    · rw [List.length_append, List.length_take]; omega
  obtain ⟨refs, er, r0, rz⟩ := refs
  rw [er] at hR
  clear er
  have k1721 : Kp [l2] H17 H21 := ((Kp.of s18).trans k1820).trans (Kp.of s21)
  have p21 := p20.kp (S := []) (by simp) (Kp.of s21)
  have hS21 := kDk p17 k1721 hS17
  refine ⟨_, rfl, S, _, rfl, DPut.k (k := .inr "refs") hS21 (sz_lt (by show 5 ≤ 100000; decide)), ?_⟩
  rw [show putK (kvA (.ref l2) (.ref W) (.ref Tk) (.int 5)) (.inr "refs") (.ref R) = kvB (.ref l2) (.ref W) (.ref Tk) (.int 5) (.ref R) by rfl]
  have s021 := s017.kp k1721 nl20
  have hW21 := kS p17 k1721 hW17
  have hN21 := kS p17 k1721 hN17
  have hG21 := kS p17 k1721 hG17
  have hc21 := Dp.kp k1721 p17.lsts _ _ c.tu hc17
  have WS' : ∀ {Hx : Hp} {t : Addr} {xs : List V} {kvs : List (Key × V)}, Hx t = some (.lst xs) → Hx S = some (.dK kvs) → t ≠ S := fun e e' => lst_dk e e'
  have p22 : Pool (upd H21 S (.dK (kvB (.ref l2) (.ref W) (.ref Tk) (.int 5) (.ref R)))) l2 := p21.kp (S := [S]) (lone l2S) (Kp.wr (.head _))
  have hW22 : upd H21 S (.dK (kvB (.ref l2) (.ref W) (.ref Tk) (.int 5) (.ref R))) W = some (.lst (words.map V.str)) := by rw [upd_ne (WS' hW21 hS21)]; exact hW21
  have hN22 : upd H21 S (.dK (kvB (.ref l2) (.ref W) (.ref Tk) (.int 5) (.ref R))) Nm = some (.lst (names.map V.str)) := by rw [upd_ne (WS' hN21 hS21)]; exact hN21
  have hG22 : upd H21 S (.dK (kvB (.ref l2) (.ref W) (.ref Tk) (.int 5) (.ref R))) G = some (.lst (g.map V.str)) := by rw [upd_ne (WS' hG21 hS21)]; exact hG21
  have hR22 : upd H21 S (.dK (kvB (.ref l2) (.ref W) (.ref Tk) (.int 5) (.ref R))) R = some (.lst (refs.map V.str)) := by rw [upd_ne (WS' hR hS21)]; exact hR
  have hS22 : upd H21 S (.dK (kvB (.ref l2) (.ref W) (.ref Tk) (.int 5) (.ref R))) S = some (.dK (kvB (.ref l2) (.ref W) (.ref Tk) (.int 5) (.ref R))) := upd_same
  have hc22 : Dp K (upd H21 S (.dK (kvB (.ref l2) (.ref W) (.ref Tk) (.int 5) (.ref R)))) (.ref ca) c.d := dpN (Kp.wr (.head _)) (NT.dict hS21) _ _ c.tu hc21
  revert p22 hW22 hN22 hG22 hR22 hS22 hc22
  generalize upd H21 S (.dK (kvB (.ref l2) (.ref W) (.ref Tk) (.int 5) (.ref R))) = H22
  intro p22 hW22 hN22 hG22 hR22 hS22 hc22
  clear hc21 hG21 hN21 hW21 s021 hS21 hR
  -- the words
  refine ⟨_, rfl, _, rfl, l2, 3, rfl, p22, by decide, by decide, fun d4 H23 d40 d41 k23 p23 => ⟨d4, rfl, by omega, by omega, fun D4 nD4 => ?_⟩⟩
  obtain ⟨cw2, rfl⟩ := Int.eq_ofNat_of_zero_le d40
  rw [show (cw2 : Int).toNat = cw2 by omega]
  have hN23 := kS p22 k23 hN22
  have lD4 : l2 ≠ D4 := by
    obtain ⟨xs, e⟩ := p23.lst
    exact ne_of_none e nD4
  refine lc_range (fun i H' => Kp [l2] H23 H' ∧ Pool H' l2 ∧ ∃ acc : List Str, H' D4 = some (.lst (acc.map V.str)) ∧ acc.length = i ∧ ∀ x ∈ acc, NameOk x) ⟨Kp.new nD4, p23.kp (S := [D4]) (lone lD4) (Kp.wr (.head _)), [], upd_same, rfl, (fun _ m => by cases m)⟩ ?_ ?_
  · rintro i H' hi ⟨k', p', acc, hD', la, an⟩
    have hN' := kS p23 k' hN23
    refine ⟨rfl, _, rfl, _, rfl, _, rfl, Nm, _, rfl, .inl (SqL.of hN'), l2, _, rfl, p', by rw [List.length_map]; omega, by rw [List.length_map]; omega, fun e H2 e0 e1 k2 p2 => ?_⟩
    obtain ⟨x, hxm, hx⟩ := draw_at e0 e1
    refine ⟨Nm, _, e, .str x, rfl, rfl, SqL.of (kS p' k2 hN'), hx, _, kS p' k2 hD', sz_lt (by rw [List.length_map]; omega), (k'.trans k2).mut nD4, p2.kp (S := [D4]) (lone lD4) (Kp.wr (.head _)), acc ++ [x], by rw [upd_same, List.map_append]; rfl, ?_, all_snoc an (nok x hxm)⟩
    rw [List.length_append]; show acc.length + 1 = _; omega
  rintro H24 ⟨k24, p24, acc4, hD24, la4, an4⟩
  have k2224 := k23.trans k24
  refine ⟨W, D4, _, _, rfl, rfl, kS p22 k2224 hW22, hD24, sz_le (by rw [List.length_map, List.length_map]; omega), fun H25 W2 s25 nW2 hW2 => ?_⟩
  rw [← List.map_append] at hW2
  have wds : ∃ wds : List Str, words ++ acc4 = wds ∧ 0 < wds.length ∧ wds.length ≤ 100 ∧ ∀ x ∈ wds, NameOk x := by
    refine ⟨_, rfl, ?_, ?_, fun x m => (List.mem_append.mp m).elim (wn x) (an4 x)⟩
    · rw [List.length_append]; omega
    · rw [List.length_append]; omega
  obtain ⟨wds, ew, w20, w2z, w2n⟩ := wds
  rw [ew] at hW2
  clear ew
  have k2225 : Kp [l2] H22 H25 := k2224.trans (Kp.of s25)
  have p25 := p24.kp (S := []) (by simp) (Kp.of s25)
  have hS25 := kDk p22 k2225 hS22
  have hN25 := kS p22 k2225 hN22
  have hG25 := kS p22 k2225 hG22
  have hR25 := kS p22 k2225 hR22
  have hc25 := Dp.kp k2225 p22.lsts _ _ c.tu hc22
  refine ⟨_, rfl, S, _, rfl, DPut.k (k := .inr "words") hS25 (sz_lt (by show 6 ≤ 100000; decide)), ?_⟩
  rw [show putK (kvB (.ref l2) (.ref W) (.ref Tk) (.int 5) (.ref R)) (.inr "words") (.ref W2) = kvB (.ref l2) (.ref W2) (.ref Tk) (.int 5) (.ref R) by rfl]
  /- what stands, whatever the dict -/
  let Al : Hp → List (Key × V) → Prop := fun Hx kvs => Pool Hx l2 ∧ Hx W2 = some (.lst (wds.map V.str)) ∧ Hx Nm = some (.lst (names.map V.str)) ∧ Hx G = some (.lst (g.map V.str)) ∧ Hx R = some (.lst (refs.map V.str)) ∧ Dp K Hx (.ref ca) c.d ∧ Hx S = some (.dK kvs)
  have al_put : ∀ {Hx kvs} (kvs'), Al Hx kvs → Al (upd Hx S (.dK kvs')) kvs' := fun {Hx kvs} kvs' ⟨a1, a2, a3, a4, a5, a6, a7⟩ =>
    ⟨a1.kp (S := [S]) (lone l2S) (Kp.wr (.head _)), by rw [upd_ne (lst_dk a2 a7)]; exact a2, by rw [upd_ne (lst_dk a3 a7)]; exact a3, by rw [upd_ne (lst_dk a4 a7)]; exact a4, by rw [upd_ne (lst_dk a5 a7)]; exact a5, dpN (Kp.wr (.head _)) (NT.dict a7) _ _ c.tu a6, upd_same⟩
  have al_kp : ∀ {Hx Hy kvs}, Al Hx kvs → Kp [l2] Hx Hy → Pool Hy l2 → Al Hy kvs := fun {Hx Hy kvs} ⟨a1, a2, a3, a4, a5, a6, a7⟩ k p =>
    ⟨p, kS a1 k a2, kS a1 k a3, kS a1 k a4, kS a1 k a5, Dp.kp k a1.lsts _ _ c.tu a6, kDk a1 k a7⟩
  have al0 : Al H25 _ := ⟨p25, hW2, hN25, hG25, hR25, hc25, hS25⟩
  have al1 := al_put (kvB (.ref l2) (.ref W2) (.ref Tk) (.int 5) (.ref R)) al0
  revert al1
  generalize upd H25 S (.dK (kvB (.ref l2) (.ref W2) (.ref Tk) (.int 5) (.ref R))) = H26
  intro al1
  -- pick, budget
  refine ⟨_, rfl, l2, 16, rfl, al1.1, by decide, by decide, fun pk H27 pk0 pk1 k27 p27 => ?_⟩
  have al2 := al_kp al1 k27 p27
  refine ⟨_, rfl, l2, 10, rfl, p27, by decide, by decide, fun bd H28 bd0 bd1 k28 p28 => ⟨_, _, rfl, rfl, ?_⟩⟩
  have al3 := al_kp al2 k28 p28
  refine ⟨_, rfl, S, _, rfl, DPut.k (k := .inr "budget") al3.2.2.2.2.2.2 (sz_lt (by show 6 ≤ 100000; decide)), ?_⟩
  rw [show putK (kvB (.ref l2) (.ref W2) (.ref Tk) (.int 5) (.ref R)) (.inr "budget") (.int (2 + bd)) = kvC (.ref l2) (.ref W2) (.ref Tk) (.int 5) (.ref R) (.int (2 + bd)) by rfl]
  have al4 := al_put (kvC (.ref l2) (.ref W2) (.ref Tk) (.int 5) (.ref R) (.int (2 + bd))) al3
  revert al4
  generalize upd H28 S (.dK (kvC (.ref l2) (.ref W2) (.ref Tk) (.int 5) (.ref R) (.int (2 + bd)))) = H29
  intro al4
  refine ⟨fun σ' H' => ∃ (tm : Nat) (bg : Int), σ' = [some (.ref a), some (.ref l2), some (.ref N), some (.ref W), some (.ref S), some (.int (many : Int)), some (.ref ca), some (.ref Gh), some (.ref Nm), some (.ref G), y10, some (.int pk), none, none] ∧ tm ≤ 5 ∧ 1 ≤ bg ∧ bg ≤ 196 ∧ Al H' (kvC (.ref l2) (.ref W2) (.ref Tk) (.int (tm : Int)) (.ref R) (.int bg)), ?_, ?_⟩
  · refine ⟨_, rfl, rfl, _, rfl, iteB (fun _ => ?_) (fun _ => ?_)⟩
    · refine ⟨_, rfl, S, _, rfl, DPut.k (k := .inr "budget") al4.2.2.2.2.2.2 (sz_lt (by show 7 ≤ 100000; decide)), ?_⟩
      rw [show putK (kvC (.ref l2) (.ref W2) (.ref Tk) (.int 5) (.ref R) (.int (2 + bd))) (.inr "budget") (.int 196) = kvC (.ref l2) (.ref W2) (.ref Tk) (.int 5) (.ref R) (.int 196) by rfl]
      have al5 := al_put (kvC (.ref l2) (.ref W2) (.ref Tk) (.int 5) (.ref R) (.int 196)) al4
      refine ⟨_, rfl, S, _, rfl, DPut.k (k := .inr "times") al5.2.2.2.2.2.2 (sz_lt (by show 7 ≤ 100000; decide)), ?_⟩
      rw [show putK (kvC (.ref l2) (.ref W2) (.ref Tk) (.int 5) (.ref R) (.int 196)) (.inr "times") (.int 1) = kvC (.ref l2) (.ref W2) (.ref Tk) (.int 1) (.ref R) (.int 196) by rfl]
      exact ⟨1, 196, rfl, by decide, by decide, by decide, al_put _ al5⟩
    · refine ⟨_, rfl, _, _, rfl, rfl, _, rfl, iteB (fun _ => ?_) (fun _ => ?_)⟩
      · refine ⟨_, rfl, S, _, rfl, DPut.k (k := .inr "budget") al4.2.2.2.2.2.2 (sz_lt (by show 7 ≤ 100000; decide)), ?_⟩
        rw [show putK (kvC (.ref l2) (.ref W2) (.ref Tk) (.int 5) (.ref R) (.int (2 + bd))) (.inr "budget") (.int 31) = kvC (.ref l2) (.ref W2) (.ref Tk) (.int 5) (.ref R) (.int 31) by rfl]
        exact ⟨5, 31, rfl, by decide, by decide, by decide, al_put _ al4⟩
      · exact ⟨5, 2 + bd, rfl, by decide, by omega, by omega, al4⟩
  rintro σ' H30 ⟨tm, bg, rfl, tm5, bg1, bg2, al5⟩
  -- claim, names, group
  refine ⟨_, rfl, _, rfl, S, _, rfl, DPut.k (k := .inr "claim") al5.2.2.2.2.2.2 (sz_lt (by show 7 ≤ 100000; decide)), ?_⟩
  have al6 := al_put (putK (kvC (.ref l2) (.ref W2) (.ref Tk) (.int (tm : Int)) (.ref R) (.int bg)) (.inr "claim") (.ref ca)) al5
  refine ⟨_, rfl, _, rfl, S, _, rfl, DPut.k (k := .inr "names") al6.2.2.2.2.2.2 (sz_lt (by show 8 ≤ 100000; decide)), ?_⟩
  have al7 := al_put (putK (putK (kvC (.ref l2) (.ref W2) (.ref Tk) (.int (tm : Int)) (.ref R) (.int bg)) (.inr "claim") (.ref ca)) (.inr "names") (.ref Nm)) al6
  refine ⟨_, rfl, _, rfl, S, _, rfl, DPut.k (k := .inr "group") al7.2.2.2.2.2.2 (sz_lt (by show 9 ≤ 100000; decide)), ?_⟩
  have al8 := al_put (putK (putK (putK (kvC (.ref l2) (.ref W2) (.ref Tk) (.int (tm : Int)) (.ref R) (.int bg)) (.inr "claim") (.ref ca)) (.inr "names") (.ref Nm)) (.inr "group") (.ref G)) al7
  revert al8
  rw [show putK (putK (putK (kvC (.ref l2) (.ref W2) (.ref Tk) (.int (tm : Int)) (.ref R) (.int bg)) (.inr "claim") (.ref ca)) (.inr "names") (.ref Nm)) (.inr "group") (.ref G) = kvD (.ref l2) (.ref W2) (.ref Tk) (.int (tm : Int)) (.ref R) (.int bg) (.ref ca) (.ref Nm) (.ref G) by rfl]
  generalize upd (upd (upd H30 S _) S _) S (.dK (kvD (.ref l2) (.ref W2) (.ref Tk) (.int (tm : Int)) (.ref R) (.int bg) (.ref ca) (.ref Nm) (.ref G))) = H31
  rintro ⟨p31, hW31, hN31, hG31, hR31, hc31, hS31⟩
  -- the tree
  have eF : setB (valV (kvD (.ref l2) (.ref W2) (.ref Tk) (.int (tm : Int)) (.ref R) (.int bg) (.ref ca) (.ref Nm) (.ref G))) bg = valV (kvD (.ref l2) (.ref W2) (.ref Tk) (.int (tm : Int)) (.ref R) (.int bg) (.ref ca) (.ref Nm) (.ref G)) := funext fun k => by
    unfold setB
    by_cases e : k = .inr "budget"
    · rw [if_pos e, e]; rfl
    · rw [if_neg e]
  have stb : Stb H31 S l2 W2 R wds refs bg (valV (kvD (.ref l2) (.ref W2) (.ref Tk) (.int (tm : Int)) (.ref R) (.int bg) (.ref ca) (.ref Nm) (.ref G))) := by
    refine ⟨?_, by rfl, hR31, r0, by omega, (pool_ne p31 hR31).symm⟩
    rw [eF]
    exact ⟨⟨_, hS31, fun _ => rfl, (by show 10 ≤ 20; decide)⟩, by rfl, by rfl, by rfl, hW31, p31, w2n, w20, by omega, (pool_ne p31 hW31).symm⟩
  refine ⟨_, rfl, S, l2, W2, R, wds, refs, bg, _, 0, 400, 0, rfl, stb, by decide, by omega, by decide, by decide, by decide, by decide, fun vt t b' H32 ht g32 k32 st32 => ?_⟩
  obtain ⟨kvs, hS32, f32, z32⟩ := st32.a.dict
  refine ⟨_, rfl, S, _, rfl, DPut.k (k := .inr "tree") hS32 (sz_lt (by omega)), ?_⟩
  have kT : Kp [S] H32 (upd H32 S (.dK (putK kvs (.inr "tree") vt))) := Kp.wr (.head _)
  have nt31 := stb.nt
  have notlS : ∀ {x : Addr} {xs : List Str}, H31 x = some (.lst (xs.map V.str)) → x ∉ [l2, S] := fun h => not2 (pool_ne p31 h).symm (lst_dk h hS31)
  have hN32 := k32 _ _ (notlS hN31) hN31
  have hG32 := k32 _ _ (notlS hG31) hG31
  have hc32 := dpN k32 nt31 _ _ c.tu hc31
  have gv : ∀ x : Str, (x == "tree") = false → (x == "budget") = false → valV (putK kvs (.inr "tree") vt) (.inr x) = valV (kvD (.ref l2) (.ref W2) (.ref Tk) (.int (tm : Int)) (.ref R) (.int bg) (.ref ca) (.ref Nm) (.ref G)) (.inr x) := fun x e1 e2 => by
    have n1 : ¬ (.inr x : Key) = .inr "tree" := fun z => by
      rw [Sum.inr.inj z, beq_self_eq_true] at e1
      cases e1
    have n2 : ¬ (.inr x : Key) = .inr "budget" := fun z => by
      rw [Sum.inr.inj z, beq_self_eq_true] at e2
      cases e2
    rw [valV_put, if_neg n1, f32]
    unfold setB
    rw [if_neg n2]
  obtain ⟨tok, tht, tsz, tfew, tdp⟩ := g32
  refine ⟨_, rfl, q _ S l2 Nm G names g (.ref ca) vt c t tm ⟨⟨_, upd_same, by rw [gv _ (by decide +kernel) (by decide +kernel)]; rfl, by rw [gv _ (by decide +kernel) (by decide +kernel)]; rfl, by rw [gv _ (by decide +kernel) (by decide +kernel)]; rfl, by rw [gv _ (by decide +kernel) (by decide +kernel)]; rfl, by rw [valV_put, if_pos rfl], by rw [gv _ (by decide +kernel) (by decide +kernel)]; rfl⟩,
    st32.a.pool.kp (S := [S]) (lone l2S) kT, by rw [upd_ne (lst_dk hN32 hS32)]; exact hN32, by rw [upd_ne (lst_dk hG32 hS32)]; exact hG32, dpN kT (NT.dict hS32) _ _ c.tu hc32, dpN kT (NT.dict hS32) _ _ t.tu ht, n0, by omega, dr, few, grp, gz, tok, by omega, by omega, by omega, tm5⟩⟩
end
end HA

/-! The law's own counts. -/
namespace HA
open PySem PySem.Spec PyProof.Rows L2 HX
def TpAt (K : PySem.W.Frag) (H : Hp) (v : V) (t : T3) : Prop := ∃ a, v = .ref a ∧ SqT K H a [.int t.1, .int t.2.1, .int t.2.2]
abbrev TD (K : PySem.W.Frag) (H : Hp) (D : Addr) (f : CF) : Prop := DF (TpAt K) H D f
section
variable {K : PySem.W.Frag} {H H' : Hp} {D T : Addr} {v : V} {t : T3} {f : CF} {tot : List (Key × V)}
theorem TpAt.sm (e : Same H H') (h : TpAt K H v t) : TpAt K H' v t := let ⟨a, h1, h2⟩ := h; ⟨a, h1, e.seqT h2⟩
theorem TD.sm (e : Same H H') (h : TD K H D f) : TD K H' D f := DF.sm (fun v t h => h.sm e) e h
theorem TpAt.kd (hT : H T = some (.dK tot)) (k : Kp [T] H H') (h : TpAt K H v t) : TpAt K H' v t := let ⟨a, h1, h2⟩ := h; ⟨a, h1, Kp.seqN k (NT.dict hT) h2⟩
end
theorem oadd_get {a b : Option T3} (pa : ∀ u, a = some u → P3 u) (pb : ∀ u, b = some u → P3 u) (h : a ≠ none ∨ b ≠ none) : oadd a b = some ((a.getD z3).1 + (b.getD z3).1, (a.getD z3).2.1 + (b.getD z3).2.1, max (a.getD z3).2.2 (b.getD z3).2.2) := by
  cases a with
  | none => cases b with
    | none => exact h.elim (fun z => absurd rfl z) (fun z => absurd rfl z)
    | some b =>
      have := pb b rfl
      unfold P3 at this
      simp only [oadd, Option.getD_none, Option.getD_some, z3, Option.some.injEq]
      ext
      · show b.1 = 0 + b.1; omega
      · show b.2.1 = 0 + b.2.1; omega
      · show b.2.2 = max 0 b.2.2; omega
  | some a => cases b with
    | none =>
      have := pa a rfl
      unfold P3 at this
      simp only [oadd, Option.getD_none, Option.getD_some, z3, Option.some.injEq]
      ext
      · show a.1 = a.1 + 0; omega
      · show a.2.1 = a.2.1 + 0; omega
      · show a.2.2 = max a.2.2 0; omega
    | some b => rfl
theorem oor_get {a b : Option T3} (h : a ≠ none ∨ b ≠ none) : oor a b = some (min (a.getD z3).1 (b.getD z3).1, max (a.getD z3).2.1 (b.getD z3).2.1, max (a.getD z3).2.2 (b.getD z3).2.2) := by
  cases a with
  | none => cases b with
    | none => exact h.elim (fun z => absurd rfl z) (fun z => absurd rfl z)
    | some b => rfl
  | some a => cases b <;> rfl
theorem min_if (i j : Int) : (if j < i then j else i) = min i j := by split <;> omega
/-- over the first keys -/
def upTo (ks : List Key) (j : Nat) (G : CF) : CF := fun k => if k ∈ ks.take j then G k else none
theorem upTo_step {ks : List Key} {j : Nat} {k : Key} {G : CF} (h : ks[j]? = some k) (k' : Key) : upTo ks (j + 1) G k' = if k' = k then G k else upTo ks j G k' := by
  unfold upTo
  rw [List.take_add_one, h]
  by_cases e : k' = k
  · subst e
    rw [if_pos rfl, if_pos (by simp)]
  · rw [if_neg e]
    by_cases m : k' ∈ ks.take j
    · rw [if_pos m, if_pos (List.mem_append_left _ m)]
    · rw [if_neg m, if_neg fun z => by
        rcases List.mem_append.mp z with z | z
        · exact m z
        · simp at z
          exact e z]
theorem upTo_end {ks : List Key} {G : CF} (h : ∀ k, k ∉ ks → G k = none) : upTo ks ks.length G = G := funext fun k => by
  unfold upTo
  rw [List.take_length]
  by_cases m : k ∈ ks
  · rw [if_pos m]
  · rw [if_neg m, h k m]
theorem get_def {R : V → T3 → Prop} {a : Option V} {b : Option T3} {z : V} (h : ORel R a b) (hz : R z z3) : R (a.getD z) (b.getD z3) := by
  cases a with
  | none => cases b with
    | none => exact hz
    | some t => exact h.elim
  | some v => cases b with
    | none => exact h.elim
    | some t => exact h
section
variable {P : Program} {w : World} {K : PySem.W.Frag} {mg : Str → Option Value} {base : Heap}
def mrg (b : Bool) (f g : CF) : CF := if b = true then cor f g else cadd f g
def spMerge (K : PySem.W.Frag) : Sp := fun vs H Q _ => ∃ (D1 D2 : Addr) (b : Bool) (f g : CF) (U : List Key), vs = [.ref D1, .ref D2, .bl b] ∧ TD K H D1 f ∧ TD K H D2 g ∧ Pos f ∧ Pos g ∧ Sup f U ∧ Sup g U ∧ U.length ≤ 5000 ∧
  ∀ H' D, Same H H' → H D = none → TD K H' D (mrg b f g) → Q (.ref D) H'
theorem ok_merge (T : Tx K w mg) {k : Nat} : FnOk P w K mg base CX0 (k + 1) T.a__law_merge T.d__law_merge ["one", "two", "either_v"] (spMerge K) := by
  refine T.F__law_merge.ok sc__law_merge (fun vs H Q E h => ?_) (fun cdv A outer s H vs Q E hr h => ?_)
  · obtain ⟨D1, D2, b, f, g, U, rfl, _⟩ := h
    rfl
  obtain ⟨D1, D2, b, f, g, U, rfl, ⟨k1, h1, nd1, o1⟩, ⟨k2, h2, nd2, o2⟩, pf, pg, sf, sg, lu, q⟩ := h
  have len1 := DF.few nd1 o1 sf
  have len2 := DF.few nd2 o2 sg
  refine ⟨_, (pss_cons (ps_set (i := 3) sc__law_merge.nd rfl (Or.inl rfl) pe_dictN)
    (pss_cons (ps_for PassesOwn.never rfl (pi_list (pe_op op_catL (pe_callTy (call_listDk rfl) (by rfl) T.z_list (by decide +kernel) (pa_cons (pv 0) pa_nil)) (pe_callTy (call_listDk rfl) (by rfl) T.z_list (by decide +kernel) (pa_cons (pv 1) pa_nil)))) (pg_name (i := 4) sc__law_merge.nd rfl (Or.inl rfl))
      (pss_cons (ps_set (i := 5) sc__law_merge.nd rfl (Or.inl rfl) (pe_dget2 (hu_of hr) (pv 0) (pv 4) (pe_tupN (pa_cons pe_int (pa_cons pe_int (pa_cons pe_int pa_nil)))) ⟨rfl, rfl, rfl, rfl⟩))
      (pss_cons (ps_set (i := 6) sc__law_merge.nd rfl (Or.inl rfl) (pe_dget2 (hu_of hr) (pv 1) (pv 4) (pe_tupN (pa_cons pe_int (pa_cons pe_int (pa_cons pe_int pa_nil)))) ⟨rfl, rfl, rfl, rfl⟩))
      (pss_cons (ps_dput (hu_of hr) (pv 3) (pv 4) (pe_tupN (pa_cons (pe_op op_add (pe_ix ix_tup (pv 5) pe_int (fun _ _ => rfl)) (pe_ix ix_tup (pv 6) pe_int (fun _ _ => rfl))) (pa_cons (pe_op op_add (pe_ix ix_tup (pv 5) pe_int (fun _ _ => rfl)) (pe_ix ix_tup (pv 6) pe_int (fun _ _ => rfl))) (pa_cons (pe_callB (call_max2 rfl) (by rfl) T.z_max (by decide +kernel) (pa_cons (pe_ix ix_tup (pv 5) pe_int (fun _ _ => rfl)) (pa_cons (pe_ix ix_tup (pv 6) pe_int (fun _ _ => rfl)) pa_nil))) pa_nil)))) rfl)
      (pss_one (ps_if (pt_val (pv 2))
        (pss_one (ps_dput (hu_of hr) (pv 3) (pv 4) (pe_tupN (pa_cons (pe_callB (call_min2 rfl) (by rfl) T.z_min (by decide +kernel) (pa_cons (pe_ix ix_tup (pv 5) pe_int (fun _ _ => rfl)) (pa_cons (pe_ix ix_tup (pv 6) pe_int (fun _ _ => rfl)) pa_nil))) (pa_cons (pe_callB (call_max2 rfl) (by rfl) T.z_max (by decide +kernel) (pa_cons (pe_ix ix_tup (pv 5) pe_int (fun _ _ => rfl)) (pa_cons (pe_ix ix_tup (pv 6) pe_int (fun _ _ => rfl)) pa_nil))) (pa_cons (pe_callB (call_max2 rfl) (by rfl) T.z_max (by decide +kernel) (pa_cons (pe_ix ix_tup (pv 5) pe_int (fun _ _ => rfl)) (pa_cons (pe_ix ix_tup (pv 6) pe_int (fun _ _ => rfl)) pa_nil))) pa_nil)))) rfl))
        pss_nil))))))
    (pss_one (ps_ret (pv 3))))), ?_⟩
  refine fun H1 A1 s1 nA hA => ?_
  refine ⟨_, rfl, D1, k1, rfl, .inl (s1 _ _ h1), fun H2 p2 s2 n2 hp2 => ⟨_, rfl, D2, k2, rfl, .inl (s2 _ _ (s1 _ _ h2)), fun H3 p3 s3 n3 hp3 => ?_⟩⟩
  refine ⟨p2, p3, _, _, rfl, rfl, s3 _ _ hp2, hp3, sz_le (by rw [List.length_map, List.length_map]; omega), fun H4 p4 s4 n4 hp4 => ⟨p4, rfl, ⟨_, SqL.of hp4⟩, ?_⟩⟩
  have ek : (k1.map fun kv => kV kv.1) ++ (k2.map fun kv => kV kv.1) = (k1.map (·.1) ++ k2.map (·.1)).map kV := by
    rw [List.map_append, List.map_map, List.map_map]; rfl
  rw [ek] at hp4
  have ks : ∃ ks : List Key, k1.map (·.1) ++ k2.map (·.1) = ks ∧ ks.length ≤ 10000 ∧ ∀ k, k ∈ ks ↔ (f k ≠ none ∨ g k ≠ none) := by
    refine ⟨_, rfl, by rw [List.length_append, List.length_map, List.length_map]; omega, fun k => ?_⟩
    rw [List.mem_append]
    have a1 : k ∈ k1.map (·.1) ↔ f k ≠ none := by
      rw [← valV_key]
      have := o1 k
      cases e : f k with
      | none => rw [e] at this; rw [orel_none this]; simp
      | some t => rw [e] at this; obtain ⟨v, ev, _⟩ := orel_some this; rw [ev]; simp
    have a2 : k ∈ k2.map (·.1) ↔ g k ≠ none := by
      rw [← valV_key]
      have := o2 k
      cases e : g k with
      | none => rw [e] at this; rw [orel_none this]; simp
      | some t => rw [e] at this; obtain ⟨v, ev, _⟩ := orel_some this; rw [ev]; simp
    rw [a1, a2]
  obtain ⟨ks, eks, lks, mks⟩ := ks
  rw [eks] at hp4
  have s04 := ((s1.trans s2).trans s3).trans s4
  have h14 := s04 _ _ h1
  have h24 := s04 _ _ h2
  have hA4 := (s2.trans (s3.trans s4)) _ _ hA
  have AD1 : A1 ≠ D1 := (ne_of_none h1 nA).symm
  have AD2 : A1 ≠ D2 := (ne_of_none h2 nA).symm
  have A4 : A1 ≠ p4 := ne_of_none ((s2.trans s3) _ _ hA) n4
  refine for_list (xs := ks.map kV) (fun i σ' H' => ∃ (y4 y5 y6 : Option V) (tot : List (Key × V)), σ' = [some (.ref D1), some (.ref D2), some (.bl b), some (.ref A1), y4, y5, y6] ∧ Kp [A1] H4 H' ∧ H' A1 = some (.dK tot) ∧ (tot.map (·.1)).Nodup ∧ tot.length ≤ i ∧ ∀ k, ORel (TpAt K H') (valV tot k) (upTo ks i (mrg b f g) k))
    ⟨none, none, none, [], rfl, Kp.refl _, hA4, List.nodup_nil, Nat.le_refl _, fun k => by unfold upTo; rw [List.take_zero, if_neg (by simp)]; trivial⟩ ?_ ?_ ?_
  · rintro i σ' H' _ ⟨_, _, _, _, _, k', _⟩
    exact k'.seqL (lone A4.symm) (SqL.of hp4)
  · rintro i x σ' H5 hi ⟨y4, y5, y6, tot, rfl, k5, hT, nd, lt, o⟩
    rw [List.getElem?_map] at hi
    obtain ⟨k, hk, rfl⟩ := Option.map_eq_some_iff.mp hi
    have ik := (List.getElem?_eq_some_iff.mp hk).1
    have h15 := k5 _ _ (lone AD1.symm) h14
    have h25 := k5 _ _ (lone AD2.symm) h24
    refine ⟨_, rfl, D1, rfl, .inl ⟨_, .inl h15⟩, _, rfl, (by show 3 ≤ 1000; decide), fun H6 z6 s6 n6 hz6 => ⟨_, DGet.k (k := k) (s6 _ _ h15), ?_⟩⟩
    refine ⟨_, rfl, D2, rfl, .inl ⟨_, .inl (s6 _ _ h25)⟩, _, rfl, (by show 3 ≤ 1000; decide), fun H7 z7 s7 n7 hz7 => ⟨_, DGet.k (k := k) (s7 _ _ (s6 _ _ h25)), ?_⟩⟩
    have s57 := s6.trans s7
    have lft : TpAt K H7 ((valV k1 k).getD (.ref z6)) ((f k).getD z3) := get_def (ORel.mono (fun v t h => ((TpAt.kd hA4 k5 (h.sm s04))).sm s57) (o1 k)) ⟨z6, rfl, s7.seqT (SqT.of hz6)⟩
    have rgt : TpAt K H7 ((valV k2 k).getD (.ref z7)) ((g k).getD z3) := get_def (ORel.mono (fun v t h => ((TpAt.kd hA4 k5 (h.sm s04))).sm s57) (o2 k)) ⟨z7, rfl, SqT.of hz7⟩
    have some1 := (mks k).mp (List.mem_of_getElem? hk)
    have eadd := oadd_get (pf k) (pg k) some1
    have eor := oor_get (a := f k) (b := g k) some1
    revert lft rgt eadd eor
    generalize (valV k1 k).getD (V.ref z6) = lv
    generalize (valV k2 k).getD (V.ref z7) = rv
    generalize (f k).getD z3 = lt3
    generalize (g k).getD z3 = rt3
    rintro ⟨la, rfl, hl⟩ ⟨ra, rfl, hr'⟩ eadd eor
    have hT7 := s57 _ _ hT
    refine ⟨_, rfl, la, _, 0, _, rfl, rfl, hl, atI_at (j := 0) rfl rfl, _, rfl, ra, _, 0, _, rfl, rfl, hr', atI_at (j := 0) rfl rfl, _, _, rfl, rfl, ?_⟩
    refine ⟨_, rfl, la, _, 1, _, rfl, rfl, hl, atI_at (j := 1) rfl rfl, _, rfl, ra, _, 1, _, rfl, rfl, hr', atI_at (j := 1) rfl rfl, _, _, rfl, rfl, ?_⟩
    refine ⟨_, rfl, la, _, 2, _, rfl, rfl, hl, atI_at (j := 2) rfl rfl, _, rfl, ra, _, 2, _, rfl, rfl, hr', atI_at (j := 2) rfl rfl, _, _, rfl, ?_⟩
    rw [max_if]
    refine ⟨(by show 3 ≤ 1000; decide), fun H8 v8 s8 n8 hv8 => ?_⟩
    have hT8 := s8 _ _ hT7
    have ss : Same H5 H8 := s57.trans s8
    refine ⟨_, rfl, _, rfl, A1, _, rfl, DPut.k (k := k) hT8 (sz_lt (by omega)), ?_⟩
    have kA : Kp [A1] H8 (upd H8 A1 (.dK (putK tot k (.ref v8)))) := Kp.wr (.head _)
    have hT9 : upd H8 A1 (.dK (putK tot k (.ref v8))) A1 = some (.dK (putK tot k (.ref v8))) := upd_same
    have hl9 := Kp.seqN kA (NT.dict hT8) (s8.seqT hl)
    have hr9 := Kp.seqN kA (NT.dict hT8) (s8.seqT hr')
    have hv9 := Kp.seqN (K := K) kA (NT.dict hT8) (SqT.of hv8)
    have o9 : ∀ k', ORel (TpAt K (upd H8 A1 (.dK (putK tot k (.ref v8))))) (valV tot k') (upTo ks i (mrg b f g) k') := fun k' => ORel.mono (fun v t h => (TpAt.kd hT8 kA (h.sm ss))) (o k')
    have k59 : Kp [A1] H4 (upd H8 A1 (.dK (putK tot k (.ref v8)))) := (k5.trans (Kp.of ss)).trans kA
    revert hT9 hl9 hr9 hv9 o9 k59
    generalize upd H8 A1 (.dK (putK tot k (.ref v8))) = H9
    intro hT9 hl9 hr9 hv9 o9 k59
    have lp := length_putK tot k (V.ref v8)
    refine ⟨_, rfl, _, rfl, iteB (fun eb => ?_) (fun eb => ?_)⟩
    · subst eb
      refine ⟨_, rfl, la, _, 0, _, rfl, rfl, hl9, atI_at (j := 0) rfl rfl, _, rfl, ra, _, 0, _, rfl, rfl, hr9, atI_at (j := 0) rfl rfl, _, _, rfl, ?_⟩
      rw [min_if]
      refine ⟨_, rfl, la, _, 1, _, rfl, rfl, hl9, atI_at (j := 1) rfl rfl, _, rfl, ra, _, 1, _, rfl, rfl, hr9, atI_at (j := 1) rfl rfl, _, _, rfl, ?_⟩
      rw [max_if]
      refine ⟨_, rfl, la, _, 2, _, rfl, rfl, hl9, atI_at (j := 2) rfl rfl, _, rfl, ra, _, 2, _, rfl, rfl, hr9, atI_at (j := 2) rfl rfl, _, _, rfl, ?_⟩
      rw [max_if]
      refine ⟨(by show 3 ≤ 1000; decide), fun H10 v10 s10 n10 hv10 => ?_⟩
      have hT10 := s10 _ _ hT9
      refine ⟨_, rfl, _, rfl, A1, _, rfl, DPut.k (k := k) hT10 (sz_lt (by omega)), ?_⟩
      have kB : Kp [A1] H10 (upd H10 A1 (.dK (putK (putK tot k (.ref v8)) k (.ref v10)))) := Kp.wr (.head _)
      have lp2 : (putK (putK tot k (V.ref v8)) k (V.ref v10)).length = (putK tot k (V.ref v8)).length := putK_same (u := V.ref v8) (by rw [valV_put, if_pos rfl])
      refine ⟨_, _, _, _, rfl, (k59.trans (Kp.of s10)).trans kB, upd_same, nd_put _ (nd_put _ nd), by omega, fun k' => ?_⟩
      rw [upTo_step hk, valV_put]
      by_cases e : k' = k
      · rw [if_pos e, if_pos e, show mrg true f g k = _ from eor]
        exact ⟨v10, rfl, Kp.seqN kB (NT.dict hT10) (SqT.of hv10)⟩
      · rw [if_neg e, if_neg e, valV_put, if_neg e]
        exact ORel.mono (fun v t h => TpAt.kd hT10 kB (h.sm s10)) (o9 k')
    · subst eb
      refine ⟨_, _, _, _, rfl, k59, hT9, nd_put _ nd, by omega, fun k' => ?_⟩
      rw [upTo_step hk, valV_put]
      by_cases e : k' = k
      · rw [if_pos e, if_pos e, show mrg false f g k = _ from eadd]
        exact ⟨v8, rfl, hv9⟩
      · rw [if_neg e, if_neg e]
        exact o9 k'
  · rintro σ' H5 ⟨y4, y5, y6, tot, rfl, k5, hT, nd, lt, o⟩
    rw [List.length_map, upTo_end fun k n => by
      have e1 : f k = none := Classical.byContradiction fun z => n ((mks k).mpr (.inl z))
      have e2 : g k = none := Classical.byContradiction fun z => n ((mks k).mpr (.inr z))
      cases b
      · show oadd (f k) (g k) = none; rw [e1, e2]; rfl
      · show oor (f k) (g k) = none; rw [e1, e2]; rfl] at o
    exact ⟨_, rfl, q H5 A1 (s04.kp k5 nA) nA ⟨tot, hT, nd, o⟩⟩
def lbox (kd : Kd) (gone : V) (f : CF) : CF := fun r => if kV r = gone then none else (f r).map kd.bx
theorem lbox_wo (l : Int) (f : CF) : lbox .once (.int l) f = cwo l f := funext fun r => by
  unfold lbox cwo
  have e : (kV r = V.int l) ↔ (r = .inl l) := by
    cases r with
    | inl i => exact ⟨fun h => by rw [V.int.inj h], fun h => by rw [Sum.inl.inj h]; rfl⟩
    | inr x => exact ⟨fun h => (by cases h), fun h => (by cases h)⟩
  by_cases h : r = .inl l
  · rw [if_pos h, if_pos (e.mpr h)]
  · rw [if_neg h, if_neg fun z => h (e.mp z)]
    cases f r <;> rfl
theorem lbox_box (kd : Kd) (f : CF) : lbox kd .non f = cbox kd f := funext fun r => by
  unfold lbox
  rw [if_neg (by cases r <;> intro z <;> cases z)]
  rfl
def spLbox (K : PySem.W.Frag) : Sp := fun vs H Q _ => ∃ (D1 : Addr) (v gone : V) (f : CF) (kd : Kd) (U : List Key), vs = [.ref D1, v, gone] ∧ TD K H D1 f ∧ Dp K H v kd.d ∧ kd.ok ∧ (gone = .non ∨ ∃ l, gone = .int l) ∧ Sup f U ∧ U.length ≤ 5000 ∧
  ∀ H' D, Same H H' → H D = none → TD K H' D (lbox kd gone f) → Q (.ref D) H'
theorem ok_lbox (T : Tx K w mg) {k : Nat} : FnOk P w K mg base CX0 (k + 1) T.a__law_box T.d__law_box ["found", "mode", "gone"] (spLbox K) := by
  refine T.F__law_box.ok sc__law_box (fun vs H Q E h => ?_) (fun cdv A outer s H vs Q E hr h => ?_)
  · obtain ⟨D1, v, gone, f, kd, U, rfl, _⟩ := h
    rfl
  obtain ⟨D1, v0, gone, f, kd, U, rfl, ⟨k1, h1, nd1, o1⟩, hv, ok, hg, sf, lu, q⟩ := h
  have len1 := DF.few nd1 o1 sf
  refine ⟨_, (pss_cons (ps_set (i := 3) sc__law_box.nd rfl (Or.inl rfl) pe_dictN)
    (pss_cons (ps_lock (ps_for PassesOwn.never rfl (pi_keys (pv 0)) (pg_name (i := 4) sc__law_box.nd rfl (Or.inl rfl))
      (pss_cons (ps_set (i := 5) sc__law_box.nd rfl (Or.inl rfl) (pe_dget (hu_of hr) (pv 0) (pv 4) (fun _ _ => rfl)))
      (pss_one (ps_if (PW.pt (pw_and (pt_cmpR op_ne (pv 4) (pv 2) (nomark _)) (pw_and1 (pt_cmpR (op_eqD hr.units) (pv 1) pe_str (nomark _)))))
        (pss_one (ps_dput (hu_of hr) (pv 3) (pv 4) (pv 5) rfl))
        (pss_one (ps_if (pt_cmpR op_ne (pv 4) (pv 2) (nomark _))
          (pss_one (ps_dput (hu_of hr) (pv 3) (pv 4) (pe_tupN (pa_cons pe_int (pa_cons (pe_op op_mul (pe_ix ix_tup (pv 1) pe_int (fun _ _ => rfl)) (pe_ix ix_tup (pv 5) pe_int (fun _ _ => rfl))) (pa_cons (pe_op op_add (pe_ix ix_tup (pv 1) pe_int (fun _ _ => rfl)) (pe_ix ix_tup (pv 5) pe_int (fun _ _ => rfl))) pa_nil)))) rfl))
          pss_nil)))))))
    (pss_one (ps_ret (pv 3))))), ?_⟩
  refine fun H1 A1 s1 nA hA => ?_
  have h11 := s1 _ _ h1
  have AD1 : A1 ≠ D1 := (ne_of_none h1 nA).symm
  have fl : ∀ k : Key, (flatV (kV k) && flatV gone) = true := fun k => by rcases hg with rfl | ⟨l, rfl⟩ <;> cases k <;> rfl
  refine forD rfl h11 (fun j σ' Hu => ∃ (y4 y5 : Option V) (tot : List (Key × V)), σ' = [some (.ref D1), some v0, some gone, some (.ref A1), y4, y5] ∧ Kp [A1] H1 Hu ∧ Hu A1 = some (.dK tot) ∧ (tot.map (·.1)).Nodup ∧ tot.length ≤ j ∧ ∀ k, ORel (TpAt K Hu) (valV tot k) (ov k1 j (lbox kd gone f) cnil k))
    ⟨none, none, [], rfl, Kp.refl _, hA, List.nodup_nil, Nat.le_refl _, fun k => by rw [ov_zero]; trivial⟩ ?_ ?_
  · rintro j k v σ' Hl od hk hl ⟨y4, y5, tot, rfl, kp, hT, nd, lt, o⟩
    have hT' := hT
    rw [upd_ne AD1] at hT'
    obtain ⟨t, ft, ct⟩ := DF.at nd1 o1 hk
    have ev := valV_mem nd1 hk
    have jl := (List.getElem?_eq_some_iff.mp hk).1
    have hul : Hl = upd (upd Hl D1 (.dK k1)) D1 (.frz od (.dK k1)) := by
      funext b
      by_cases e : b = D1
      · rw [e, upd_same, hl]
      · rw [upd_ne e, upd_ne e]
    have notD : NT [D1] (upd Hl D1 (.dK k1)) := NT.dict upd_same
    have ct1 : TpAt K (upd Hl D1 (.dK k1)) v t := (ct.sm s1).kd hA kp
    obtain ⟨ta, rfl, hta⟩ := id ct1
    have hta' : SqT K Hl ta [.int t.1, .int t.2.1, .int t.2.2] := Kp.seqN Kp.locked notD hta
    have hv1 : Dp K Hl v0 kd.d := dpN Kp.locked notD _ _ (tu_kd kd) (dpN kp (NT.dict hA) _ _ (tu_kd kd) (Dp.sm s1 _ _ hv))
    have done : ∀ (Hx : Hp) (u : V) (y4 y5 : Option V), Same Hl Hx → TpAt K Hx u (kd.bx t) → ¬ kV k = gone →
        (upd Hx A1 (.dK (putK tot k u))) D1 = some (.frz od (.dK k1)) ∧ ∃ (y4' y5' : Option V) (tot' : List (Key × V)), ([some (.ref D1), some v0, some gone, some (.ref A1), y4, y5] : L2.St) = [some (.ref D1), some v0, some gone, some (.ref A1), y4', y5'] ∧ Kp [A1] H1 (upd (upd Hx A1 (.dK (putK tot k u))) D1 (.dK k1)) ∧
          (upd (upd Hx A1 (.dK (putK tot k u))) D1 (.dK k1)) A1 = some (.dK tot') ∧ (tot'.map (·.1)).Nodup ∧ tot'.length ≤ j + 1 ∧ ∀ k', ORel (TpAt K (upd (upd Hx A1 (.dK (putK tot k u))) D1 (.dK k1))) (valV tot' k') (ov k1 (j + 1) (lbox kd gone f) cnil k') := by
      intro Hx u y4 y5 sx hu ng
      have hlx := sx _ _ hl
      have hTx := sx _ _ hT'
      have su : Same (upd Hl D1 (.dK k1)) (upd Hx D1 (.dK k1)) := sx.un
      have hTu : upd Hx D1 (.dK k1) A1 = some (.dK tot) := by rw [upd_ne AD1]; exact hTx
      refine ⟨by rw [upd_ne AD1.symm]; exact hlx, y4, y5, putK tot k u, rfl, ?_, ?_, nd_put _ nd, ?_, fun k' => ?_⟩
      · rw [upd_comm AD1]
        exact (kp.trans (Kp.of su)).trans (Kp.wr (.head _))
      · rw [upd_comm AD1, upd_same]
      · have := length_putK tot k u
        omega
      · rw [upd_comm AD1, ov_step hk]
        have e : lbox kd gone f k = some (kd.bx t) := by
          unfold lbox
          rw [if_neg ng, ft]
          rfl
        rw [e]
        refine ORel.put (fun k => ORel.mono (fun v t h => TpAt.kd hTu (Kp.wr (.head _)) (TpAt.sm su h)) (o k)) ?_ k'
        refine TpAt.kd hTu (Kp.wr (.head _)) ?_
        obtain ⟨ua, rfl, hua⟩ := hu
        refine ⟨ua, rfl, ?_⟩
        have kf : Kp [D1] Hx (upd Hx D1 (.dK k1)) := Kp.wr (.head _)
        refine Kp.seqN kf (fun b m o e => ?_) hua
        rw [List.mem_singleton.mp m, hlx] at e
        cases e
        exact ⟨fun xs z => (by cases z), fun ob xs z => (by cases z)⟩
    refine ⟨_, rfl, _, rfl, D1, .ref ta, rfl, .inl ⟨k1, k, .inr ⟨od, hl⟩, rfl, ev.symm⟩, ?_⟩
    have skip : kV k = gone → ∀ y4 y5 : Option V, Hl D1 = some (.frz od (.dK k1)) ∧ ∃ (y4' y5' : Option V) (tot' : List (Key × V)), ([some (.ref D1), some v0, some gone, some (.ref A1), y4, y5] : L2.St) = [some (.ref D1), some v0, some gone, some (.ref A1), y4', y5'] ∧ Kp [A1] H1 (upd Hl D1 (.dK k1)) ∧ (upd Hl D1 (.dK k1)) A1 = some (.dK tot') ∧ (tot'.map (·.1)).Nodup ∧ tot'.length ≤ j + 1 ∧ ∀ k', ORel (TpAt K (upd Hl D1 (.dK k1))) (valV tot' k') (ov k1 (j + 1) (lbox kd gone f) cnil k') := fun eg y4 y5 => by
      refine ⟨hl, y4, y5, tot, rfl, kp, hT, nd, by omega, fun k' => ?_⟩
      rw [ov_skip nd1 hk (by unfold lbox; rw [if_pos eg]; rfl)]
      exact o k'
    refine ⟨_, rfl, _, rfl, by rcases hg with rfl | ⟨l, rfl⟩ <;> cases k <;> rfl, _, rfl, ?_⟩
    by_cases eg : kV k = gone
    · rw [decide_eq_true eg]
      refine iteF ?_
      refine ⟨_, rfl, _, rfl, by rcases hg with rfl | ⟨l, rfl⟩ <;> cases k <;> rfl, _, rfl, ?_⟩
      rw [decide_eq_true eg]
      exact iteF (skip eg _ _)
    · rw [decide_eq_false eg]
      refine iteT ?_
      refine ⟨_, rfl, kd.d, .str "once", hv1, .str _, shaped_kd kd, shaped_once, _, rfl, ?_⟩
      rw [eqv_once]
      rcases dp_kd hv1 with ⟨rfl, rfl⟩ | ⟨ka, n, d, rfl, rfl, hka⟩
      · refine iteB (fun _ => ?_) (fun z => absurd rfl (of_decide_eq_false z))
        exact ⟨_, rfl, _, rfl, _, rfl, A1, _, rfl, DPut.k (k := k) hT' (sz_lt (by omega)), done Hl _ _ _ (Same.refl _) ⟨ta, rfl, hta'⟩ eg⟩
      · refine iteB (fun z => absurd (of_decide_eq_true z) (by intro z; cases z)) fun _ => ?_
        refine ⟨_, rfl, _, rfl, by rcases hg with rfl | ⟨l, rfl⟩ <;> cases k <;> rfl, _, rfl, ?_⟩
        rw [decide_eq_false eg]
        refine iteT ?_
        have n1 : 1 ≤ n := ok.1
        have n2 : n ≤ 1000000 := ok.2.1
        refine ⟨_, rfl, ka, _, 0, .int n, rfl, rfl, hka, atI_at (j := 0) rfl rfl, _, rfl, ta, _, 1, _, rfl, rfl, hta', atI_at (j := 1) rfl rfl, _, _, rfl, rfl, .inl ⟨by omega, by omega⟩, ?_⟩
        refine ⟨_, rfl, ka, _, 1, .int d, rfl, rfl, hka, atI_at (j := 1) rfl rfl, _, rfl, ta, _, 2, _, rfl, rfl, hta', atI_at (j := 2) rfl rfl, _, _, rfl, rfl, ?_⟩
        refine ⟨(by show 3 ≤ 1000; decide), fun H2 r s2 n2 hr2 => ?_⟩
        exact ⟨_, rfl, _, rfl, A1, _, rfl, DPut.k (k := k) (s2 _ _ hT') (sz_lt (by omega)), done H2 _ _ _ s2 ⟨r, rfl, SqT.of hr2⟩ eg⟩
  · rintro σ' H2 ⟨y4, y5, tot, rfl, kp, hT, nd, lt, o⟩
    rw [ov_end (G := lbox kd gone f) (B := cnil) fun k n => by
      show none = lbox kd gone f k
      unfold lbox
      rw [ORel.none_of o1 n]
      split <;> rfl] at o
    exact ⟨_, rfl, q H2 A1 (s1.kp kp nA) nA ⟨tot, hT, nd, o⟩⟩
end
end HA

/-! The law's own counts of a derivation. -/
namespace HA
open PySem PySem.Spec PyProof.Rows L2 HX
theorem mrg_no (f g : CF) : mrg false f g = cadd f g := rfl
theorem mrg_yes (f g : CF) : mrg true f g = cor f g := rfl
section
variable {P : Program} {w : World} {K : PySem.W.Frag} {mg : Str → Option Value} {base : Heap}
theorem td_one {r : Key} {H0 H1 : Hp} {D z : Addr} (nD : H0 D = none) (s : Same (upd H0 D (.dK [])) H1) (nz : upd H0 D (.dK []) z = none) (hz : H1 z = some (.tup [.int 1, .int 1, .int 0])) :
    H1 D = some (.dK []) ∧ Same H0 (upd H1 D (.dK [(r, .ref z)])) ∧ TD K (upd H1 D (.dK [(r, .ref z)])) D (cone r) := by
  have hD := s _ _ upd_same
  refine ⟨hD, ((Same.new nD).trans s).mut nD, cd_one upd_same ⟨z, rfl, SqT.of ?_⟩⟩
  rw [upd_ne (ne_of_none upd_same nz).symm]
  exact hz
def spLcounts (K : PySem.W.Frag) (n : Nat) : Sp := fun vs H Q _ => ∃ (v : V) (t : Row) (l : Int), vs = [v, .int l] ∧ Dp K H v t.d ∧ t.ht ≤ n ∧ t.ok ∧ t.sz ≤ 2000 ∧ ∀ H' D, Same H H' → H D = none → TD K H' D (t.cnt l) → Q (.ref D) H'
theorem lcounts_step (T : Tx K w mg) {n : Nat} (G__law_counts : FnOk P w K mg base CX0 (n + 1) T.a__law_counts T.d__law_counts ["tree", "level"] (spLcounts K n)) :
    FnOk P w K mg base CX0 (n + 2) T.a__law_counts T.d__law_counts ["tree", "level"] (spLcounts K (n + 1)) := by
  have G__law_merge := ok_merge (P := P) (base := base) T (k := n)
  have G__law_box := ok_lbox (P := P) (base := base) T (k := n)
  refine T.F__law_counts.ok sc__law_counts (fun vs H Q E h => ?_) (fun cdv A outer s H vs Q E hr h => ?_)
  · obtain ⟨v, t, l, rfl, _⟩ := h
    rfl
  obtain ⟨v, t, l, rfl, ht, hn, hok, hz, q⟩ := h
  refine ⟨_, (pss_cons (ps_set (i := 2) sc__law_counts.nd rfl (Or.inl rfl) (pe_ix ix_tup (pv 0) pe_int (fun _ _ => rfl)))
    (pss_cons (ps_if (pt_cmpR op_eq (pv 2) pe_str (nomark _))
      (pss_one (ps_ret (pe_disp (pps_cons (pe_ix ix_tup (pv 0) pe_int (fun _ _ => rfl)) (pe_tupN (pa_cons pe_int (pa_cons pe_int (pa_cons pe_int pa_nil)))) pps_nil) (by rfl) (by rfl) (fun z => by cases z) (by decide))))
      pss_nil)
    (pss_cons (ps_if (pt_cmpR op_eq (pv 2) pe_str (nomark _))
      (pss_one (ps_ret pe_dictN))
      pss_nil)
    (pss_cons (ps_if (pt_cmpR op_eq (pv 2) pe_str (nomark _))
      (pss_one (ps_ret (pe_call (G__law_counts) hr (by rfl) T.g__law_counts T.k__law_counts T.b__law_counts .nil pass0 (pa_cons (pe_ix ix_tup (pv 0) pe_int (fun _ _ => rfl)) (pa_cons (pv 1) pa_nil)))))
      pss_nil)
    (pss_cons (ps_if (pt_cmpR op_eq (pv 2) pe_str (nomark _))
      (pss_one (ps_ret (pe_call (G__law_merge) hr (by rfl) T.g__law_merge T.k__law_merge T.b__law_merge .nil pass0 (pa_cons (pe_call (G__law_counts) hr (by rfl) T.g__law_counts T.k__law_counts T.b__law_counts .nil pass0 (pa_cons (pe_ix ix_tup (pv 0) pe_int (fun _ _ => rfl)) (pa_cons (pv 1) pa_nil))) (pa_cons (pe_call (G__law_counts) hr (by rfl) T.g__law_counts T.k__law_counts T.b__law_counts .nil pass0 (pa_cons (pe_ix ix_tup (pv 0) pe_int (fun _ _ => rfl)) (pa_cons (pv 1) pa_nil))) (pa_cons pe_bl pa_nil))))))
      pss_nil)
    (pss_cons (ps_set (i := 3) sc__law_counts.nd rfl (Or.inl rfl) (pe_call (G__law_box) hr (by rfl) T.g__law_box T.k__law_box T.b__law_box .nil pass0 (pa_cons (pe_call (G__law_counts) hr (by rfl) T.g__law_counts T.k__law_counts T.b__law_counts .nil pass0 (pa_cons (pe_ix ix_tup (pv 0) (pe_un un_neg pe_int) (fun _ _ => rfl)) (pa_cons (pe_op op_add (pv 1) pe_int) pa_nil))) (pa_cons pe_str (pa_cons (pv 1) pa_nil)))))
    (pss_cons (ps_if (pt_cmpR op_eq (pv 2) pe_str (nomark _))
      (pss_one (ps_ret (pe_call (G__law_merge) hr (by rfl) T.g__law_merge T.k__law_merge T.b__law_merge .nil pass0 (pa_cons (pv 3) (pa_cons (pe_call (G__law_box) hr (by rfl) T.g__law_box T.k__law_box T.b__law_box .nil pass0 (pa_cons (pe_call (G__law_counts) hr (by rfl) T.g__law_counts T.k__law_counts T.b__law_counts .nil pass0 (pa_cons (pe_ix ix_tup (pv 0) pe_int (fun _ _ => rfl)) (pa_cons (pv 1) pa_nil))) (pa_cons (pe_ix ix_tup (pv 0) pe_int (fun _ _ => rfl)) (pa_cons pe_non pa_nil)))) (pa_cons pe_bl pa_nil))))))
      pss_nil)
    (C8.pss_cut (ps_if (pt_cmpR op_eq (pv 2) pe_str (nomark _))
      (pss_one (ps_set (i := 3) sc__law_counts.nd rfl (Or.inl rfl) (pe_call (G__law_merge) hr (by rfl) T.g__law_merge T.k__law_merge T.b__law_merge .nil pass0 (pa_cons (pv 3) (pa_cons (pe_call (G__law_box) hr (by rfl) T.g__law_box T.k__law_box T.b__law_box .nil pass0 (pa_cons (pe_call (G__law_counts) hr (by rfl) T.g__law_counts T.k__law_counts T.b__law_counts .nil pass0 (pa_cons (pe_ix ix_tup (pv 0) pe_int (fun _ _ => rfl)) (pa_cons (pv 1) pa_nil))) (pa_cons (pe_ix ix_tup (pv 0) pe_int (fun _ _ => rfl)) (pa_cons pe_non pa_nil)))) (pa_cons pe_bl pa_nil))))))
      pss_nil)
    (pss_cons (ps_if (pt_cmpR op_eq (pv 2) pe_str (nomark _))
      (pss_one (ps_ret (pv 3)))
      pss_nil)
    (pss_one (ps_ret (pe_call (G__law_merge) hr (by rfl) T.g__law_merge T.k__law_merge T.b__law_merge .nil pass0 (pa_cons (pv 3) (pa_cons (pe_disp (pps_cons (pe_ix ix_tup (pv 0) pe_int (fun _ _ => rfl)) (pe_tupN (pa_cons pe_int (pa_cons pe_int (pa_cons pe_int pa_nil)))) pps_nil) (by rfl) (by rfl) (fun z => by cases z) (by decide)) (pa_cons pe_bl pa_nil))))))))))))))), ?_⟩
  obtain ⟨a, xs, rfl, hs, hx⟩ := Row.at_ ht
  refine ⟨_, rfl, a, _, 0, .str t.name, rfl, rfl, hs, atI_at (j := 0) rfl rfl, ?_⟩
  cases t with
  | own r =>
    obtain ⟨v0, xs, rfl, g1, hx⟩ := dc1 hx
    obtain rfl := dc0 hx
    obtain rfl := g1.key_inv
    refine ⟨_, rfl, rfl, _, rfl, yt ?_⟩
    refine fun D nD => ⟨_, rfl, a, _, 1, kV r, rfl, rfl, (Same.new nD).seqT hs, atI_at (j := 1) rfl rfl, (by show 3 ≤ 1000; decide), fun H1 z s1 nz h1 => ?_⟩
    obtain ⟨hD, s2, c1⟩ := td_one (K := K) (r := r) nD s1 nz h1
    exact ⟨hD, [(r, .ref z)], rfl, (by show 1 ≤ 15; decide), q _ D s2 nD c1⟩
  | cite x =>
    refine ⟨_, rfl, rfl, _, rfl, nt (x := "cite") (y := "own") (by decide +kernel) ?_⟩
    refine ⟨_, rfl, rfl, _, rfl, yt ?_⟩
    exact fun H1 D s1 nD hD => q H1 D s1 nD ⟨[], hD, List.nodup_nil, fun k => trivial⟩
  | make x i b =>
    obtain ⟨v0, xs, rfl, g0, hx⟩ := dc1 hx
    obtain ⟨v1, xs, rfl, g1, hx⟩ := dc1 hx
    obtain ⟨vb, xs, rfl, g2, hx⟩ := dc1 hx
    obtain rfl := dc0 hx
    have lt := Row.ht_kid (t := .make x i b) (c := b) (.head _)
    have lz := Row.len_refs (t := .make x i b) (c := b) (.head _)
    refine ⟨_, rfl, rfl, _, rfl, nt (x := "make") (y := "own") (by decide +kernel) ?_⟩
    refine ⟨_, rfl, rfl, _, rfl, nt (x := "make") (y := "cite") (by decide +kernel) ?_⟩
    refine ⟨_, rfl, rfl, _, rfl, yt ?_⟩
    exact ⟨_, rfl, a, _, 3, vb, rfl, rfl, hs, atI_at (j := 3) rfl rfl, _, rfl, vb, b, l, rfl, g2, by omega, hok, by omega, fun H1 D1 s1 n1 c1 => q H1 D1 s1 n1 c1⟩
  | offer b c =>
    obtain ⟨vb, xs, rfl, g1, hx⟩ := dc1 hx
    obtain ⟨vc, xs, rfl, g2, hx⟩ := dc1 hx
    obtain rfl := dc0 hx
    have lb := Row.ht_kid (t := .offer b c) (c := b) (.head _)
    have lc := Row.ht_kid (t := .offer b c) (c := c) (.tail _ (.head _))
    have zb := Row.len_refs (t := .offer b c) (c := b) (.head _)
    have zc := Row.len_refs (t := .offer b c) (c := c) (.tail _ (.head _))
    have rb := Row.refs_len b
    have rc := Row.refs_len c
    refine ⟨_, rfl, rfl, _, rfl, nt (x := "offer") (y := "own") (by decide +kernel) ?_⟩
    refine ⟨_, rfl, rfl, _, rfl, nt (x := "offer") (y := "cite") (by decide +kernel) ?_⟩
    refine ⟨_, rfl, rfl, _, rfl, nt (x := "offer") (y := "make") (by decide +kernel) ?_⟩
    refine ⟨_, rfl, rfl, _, rfl, yt ?_⟩
    refine ⟨_, rfl, a, _, 1, vb, rfl, rfl, hs, atI_at (j := 1) rfl rfl, _, rfl, vb, b, l, rfl, g1, by omega, hok.1, by omega, fun H1 D1 s1 n1 c1 => ?_⟩
    refine ⟨_, rfl, a, _, 2, vc, rfl, rfl, s1.seqT hs, atI_at (j := 2) rfl rfl, _, rfl, vc, c, l, rfl, Dp.sm s1 _ _ g2, by omega, hok.2, by omega, fun H2 D2 s2 n2 c2 => ?_⟩
    exact ⟨D1, D2, true, _, _, b.refs ++ c.refs, rfl, c1.sm s2, c2, Row.pos l hok.1, Row.pos l hok.2, (Row.sup b l).mono fun _ m => List.mem_append_left _ m, (Row.sup c l).mono fun _ m => List.mem_append_right _ m, by rw [List.length_append]; omega, fun H3 D3 s3 n3 c3 => q H3 D3 (s1.trans (s2.trans s3)) (s1.free (s2.free n3)) c3⟩
  | take b =>
    obtain ⟨vb, xs, rfl, gb, hx⟩ := dc1 hx
    obtain rfl := dc0 hx
    have lb := Row.ht_kid (t := .take b) (c := b) (.head _)
    have zb := Row.len_refs (t := .take b) (c := b) (.head _)
    have rb := Row.refs_len b
    refine ⟨_, rfl, rfl, _, rfl, nt (x := "take") (y := "own") (by decide +kernel) ?_⟩
    refine ⟨_, rfl, rfl, _, rfl, nt (x := "take") (y := "cite") (by decide +kernel) ?_⟩
    refine ⟨_, rfl, rfl, _, rfl, nt (x := "take") (y := "make") (by decide +kernel) ?_⟩
    refine ⟨_, rfl, rfl, _, rfl, nt (x := "take") (y := "offer") (by decide +kernel) ?_⟩
    refine ⟨_, rfl, 1, rfl, a, _, -1, vb, rfl, rfl, hs, by rfl, _, rfl, _, _, rfl, rfl, vb, b, l + 1, rfl, gb, by omega, hok, by omega, fun H1 D1 s1 n1 c1 => ⟨_, rfl, D1, .str "once", .int l, _, .once, b.refs, rfl, c1, .str _, trivial, .inr ⟨l, rfl⟩, Row.sup b (l + 1), by omega, fun H2 B s2 n2 c2 => ?_⟩⟩
    rw [lbox_wo] at c2
    have s12 := s1.trans s2
    have nB := s1.free n2
    refine ⟨_, rfl, rfl, _, rfl, nt (x := "take") (y := "cut") (by decide +kernel) ?_⟩
    refine ⟨fun σ' H' => ∃ (F : Addr), σ' = [some (.ref a), some (.int l), some (.str "take"), some (.ref F)] ∧ Same H H' ∧ H F = none ∧ TD K H' F (cwo l (b.cnt (l + 1))), ⟨_, rfl, rfl, _, rfl, nt (x := "take") (y := "pay") (by decide +kernel) ⟨B, rfl, s12, nB, c2⟩⟩, ?_⟩
    rintro σ' H4 ⟨F, rfl, s4, nF, c4⟩
    refine ⟨_, rfl, rfl, _, rfl, yt ?_⟩
    exact ⟨_, rfl, q H4 F s4 nF c4⟩
  | cut kd sn c b =>
    obtain ⟨vk, xs, rfl, g0, hx⟩ := dc1 hx
    obtain ⟨vs, xs, rfl, g1, hx⟩ := dc1 hx
    obtain ⟨vc, xs, rfl, gc, hx⟩ := dc1 hx
    obtain ⟨vb, xs, rfl, gb, hx⟩ := dc1 hx
    obtain rfl := dc0 hx
    have lb := Row.ht_kid (t := .cut kd sn c b) (c := b) (.tail _ (.head _))
    have lc := Row.ht_kid (t := .cut kd sn c b) (c := c) (.head _)
    have zb := Row.len_refs (t := .cut kd sn c b) (c := b) (.tail _ (.head _))
    have zc := Row.len_refs (t := .cut kd sn c b) (c := c) (.head _)
    have rb := Row.refs_len b
    have rc := Row.refs_len c
    refine ⟨_, rfl, rfl, _, rfl, nt (x := "cut") (y := "own") (by decide +kernel) ?_⟩
    refine ⟨_, rfl, rfl, _, rfl, nt (x := "cut") (y := "cite") (by decide +kernel) ?_⟩
    refine ⟨_, rfl, rfl, _, rfl, nt (x := "cut") (y := "make") (by decide +kernel) ?_⟩
    refine ⟨_, rfl, rfl, _, rfl, nt (x := "cut") (y := "offer") (by decide +kernel) ?_⟩
    refine ⟨_, rfl, 1, rfl, a, _, -1, vb, rfl, rfl, hs, by rfl, _, rfl, _, _, rfl, rfl, vb, b, l + 1, rfl, gb, by omega, hok.2.2, by omega, fun H1 D1 s1 n1 c1 => ⟨_, rfl, D1, .str "once", .int l, _, .once, b.refs, rfl, c1, .str _, trivial, .inr ⟨l, rfl⟩, Row.sup b (l + 1), by omega, fun H2 B s2 n2 c2 => ?_⟩⟩
    rw [lbox_wo] at c2
    have s12 := s1.trans s2
    have nB := s1.free n2
    refine ⟨_, rfl, rfl, _, rfl, yt ?_⟩
    refine ⟨_, rfl, _, rfl, a, _, 3, vc, rfl, rfl, s12.seqT hs, atI_at (j := 3) rfl rfl, _, rfl, vc, c, l, rfl, Dp.sm s12 _ _ gc, by omega, hok.2.1, by omega, fun H3 D3 s3 n3 c3 => ?_⟩
    have s13 := s12.trans s3
    refine ⟨_, rfl, a, _, 1, vk, rfl, rfl, s13.seqT hs, atI_at (j := 1) rfl rfl, D3, vk, .non, _, kd, c.refs, rfl, c3, Dp.sm s13 _ _ g0, hok.1, .inl rfl, Row.sup c l, by omega, fun H4 D4 s4 n4 c4 => ?_⟩
    rw [lbox_box] at c4
    refine ⟨B, D4, false, _, _, b.refs ++ c.refs, rfl, c2.sm (s3.trans s4), c4, (Row.pos (l + 1) hok.2.2).wo, (Row.pos l hok.2.1).box hok.1, (Row.sup b (l + 1)).wo.mono fun _ m => List.mem_append_left _ m, (Row.sup c l).box.mono fun _ m => List.mem_append_right _ m, by rw [List.length_append]; omega, fun H5 D5 s5 n5 c5 => ?_⟩
    rw [mrg_no, cadd_comm] at c5
    exact q H5 D5 (s13.trans (s4.trans s5)) (s13.free (s4.free n5)) c5
  | pick r sd b =>
    obtain ⟨vr, xs, rfl, gr, hx⟩ := dc1 hx
    obtain ⟨vs, xs, rfl, g1, hx⟩ := dc1 hx
    obtain ⟨vb, xs, rfl, gb, hx⟩ := dc1 hx
    obtain rfl := dc0 hx
    obtain rfl := gr.key_inv
    have lb := Row.ht_kid (t := .pick r sd b) (c := b) (.head _)
    have zb := Row.len_refs (t := .pick r sd b) (c := b) (.head _)
    have rb := Row.refs_len b
    refine ⟨_, rfl, rfl, _, rfl, nt (x := "pick") (y := "own") (by decide +kernel) ?_⟩
    refine ⟨_, rfl, rfl, _, rfl, nt (x := "pick") (y := "cite") (by decide +kernel) ?_⟩
    refine ⟨_, rfl, rfl, _, rfl, nt (x := "pick") (y := "make") (by decide +kernel) ?_⟩
    refine ⟨_, rfl, rfl, _, rfl, nt (x := "pick") (y := "offer") (by decide +kernel) ?_⟩
    refine ⟨_, rfl, 1, rfl, a, _, -1, vb, rfl, rfl, hs, by rfl, _, rfl, _, _, rfl, rfl, vb, b, l + 1, rfl, gb, by omega, hok, by omega, fun H1 D1 s1 n1 c1 => ⟨_, rfl, D1, .str "once", .int l, _, .once, b.refs, rfl, c1, .str _, trivial, .inr ⟨l, rfl⟩, Row.sup b (l + 1), by omega, fun H2 B s2 n2 c2 => ?_⟩⟩
    rw [lbox_wo] at c2
    have s12 := s1.trans s2
    have nB := s1.free n2
    refine ⟨_, rfl, rfl, _, rfl, nt (x := "pick") (y := "cut") (by decide +kernel) ?_⟩
    refine ⟨fun σ' H' => ∃ (F : Addr), σ' = [some (.ref a), some (.int l), some (.str "pick"), some (.ref F)] ∧ Same H H' ∧ H F = none ∧ TD K H' F (cwo l (b.cnt (l + 1))), ⟨_, rfl, rfl, _, rfl, nt (x := "pick") (y := "pay") (by decide +kernel) ⟨B, rfl, s12, nB, c2⟩⟩, ?_⟩
    rintro σ' H4 ⟨F, rfl, s4, nF, c4⟩
    refine ⟨_, rfl, rfl, _, rfl, nt (x := "pick") (y := "take") (by decide +kernel) ?_⟩
    refine ⟨_, rfl, fun D nD => ⟨_, rfl, a, _, 1, kV r, rfl, rfl, (Same.new nD).seqT (s4.seqT hs), atI_at (j := 1) rfl rfl, (by show 3 ≤ 1000; decide), fun H5 z s5 nz h5 => ?_⟩⟩
    obtain ⟨hD, s6, c6⟩ := td_one (K := K) (r := r) nD s5 nz h5
    refine ⟨hD, [(r, .ref z)], rfl, (by show 1 ≤ 15; decide), F, D, false, _, _, r :: b.refs, rfl, c4.sm s6, c6, (Row.pos (t := b) (l + 1) hok).wo, Pos.one r, (Row.sup b (l + 1)).wo.mono fun _ m => .tail _ m, Sup.one (.head _), by rw [List.length_cons]; omega, fun H7 D7 s7 n7 c7 => ?_⟩
    rw [mrg_no, cadd_comm] at c7
    exact q H7 D7 (s4.trans (s6.trans s7)) (s4.free (s6.free n7)) c7
  | opn r x i b =>
    obtain ⟨vr, xs, rfl, gr, hx⟩ := dc1 hx
    obtain ⟨vx, xs, rfl, g1, hx⟩ := dc1 hx
    obtain ⟨vi, xs, rfl, g2, hx⟩ := dc1 hx
    obtain ⟨vb, xs, rfl, gb, hx⟩ := dc1 hx
    obtain rfl := dc0 hx
    obtain rfl := gr.key_inv
    have lb := Row.ht_kid (t := .opn r x i b) (c := b) (.head _)
    have zb := Row.len_refs (t := .opn r x i b) (c := b) (.head _)
    have rb := Row.refs_len b
    refine ⟨_, rfl, rfl, _, rfl, nt (x := "open") (y := "own") (by decide +kernel) ?_⟩
    refine ⟨_, rfl, rfl, _, rfl, nt (x := "open") (y := "cite") (by decide +kernel) ?_⟩
    refine ⟨_, rfl, rfl, _, rfl, nt (x := "open") (y := "make") (by decide +kernel) ?_⟩
    refine ⟨_, rfl, rfl, _, rfl, nt (x := "open") (y := "offer") (by decide +kernel) ?_⟩
    refine ⟨_, rfl, 1, rfl, a, _, -1, vb, rfl, rfl, hs, by rfl, _, rfl, _, _, rfl, rfl, vb, b, l + 1, rfl, gb, by omega, hok, by omega, fun H1 D1 s1 n1 c1 => ⟨_, rfl, D1, .str "once", .int l, _, .once, b.refs, rfl, c1, .str _, trivial, .inr ⟨l, rfl⟩, Row.sup b (l + 1), by omega, fun H2 B s2 n2 c2 => ?_⟩⟩
    rw [lbox_wo] at c2
    have s12 := s1.trans s2
    have nB := s1.free n2
    refine ⟨_, rfl, rfl, _, rfl, nt (x := "open") (y := "cut") (by decide +kernel) ?_⟩
    refine ⟨fun σ' H' => ∃ (F : Addr), σ' = [some (.ref a), some (.int l), some (.str "open"), some (.ref F)] ∧ Same H H' ∧ H F = none ∧ TD K H' F (cwo l (b.cnt (l + 1))), ⟨_, rfl, rfl, _, rfl, nt (x := "open") (y := "pay") (by decide +kernel) ⟨B, rfl, s12, nB, c2⟩⟩, ?_⟩
    rintro σ' H4 ⟨F, rfl, s4, nF, c4⟩
    refine ⟨_, rfl, rfl, _, rfl, nt (x := "open") (y := "take") (by decide +kernel) ?_⟩
    refine ⟨_, rfl, fun D nD => ⟨_, rfl, a, _, 1, kV r, rfl, rfl, (Same.new nD).seqT (s4.seqT hs), atI_at (j := 1) rfl rfl, (by show 3 ≤ 1000; decide), fun H5 z s5 nz h5 => ?_⟩⟩
    obtain ⟨hD, s6, c6⟩ := td_one (K := K) (r := r) nD s5 nz h5
    refine ⟨hD, [(r, .ref z)], rfl, (by show 1 ≤ 15; decide), F, D, false, _, _, r :: b.refs, rfl, c4.sm s6, c6, (Row.pos (t := b) (l + 1) hok).wo, Pos.one r, (Row.sup b (l + 1)).wo.mono fun _ m => .tail _ m, Sup.one (.head _), by rw [List.length_cons]; omega, fun H7 D7 s7 n7 c7 => ?_⟩
    rw [mrg_no, cadd_comm] at c7
    exact q H7 D7 (s4.trans (s6.trans s7)) (s4.free (s6.free n7)) c7
  | pay r kd c b =>
    obtain ⟨vr, xs, rfl, gr, hx⟩ := dc1 hx
    obtain ⟨vk, xs, rfl, gk, hx⟩ := dc1 hx
    obtain ⟨vc, xs, rfl, gc, hx⟩ := dc1 hx
    obtain ⟨vb, xs, rfl, gb, hx⟩ := dc1 hx
    obtain rfl := dc0 hx
    obtain rfl := gr.key_inv
    have lb := Row.ht_kid (t := .pay r kd c b) (c := b) (.tail _ (.head _))
    have lc := Row.ht_kid (t := .pay r kd c b) (c := c) (.head _)
    have zb := Row.len_refs (t := .pay r kd c b) (c := b) (.tail _ (.head _))
    have zc := Row.len_refs (t := .pay r kd c b) (c := c) (.head _)
    have rb := Row.refs_len b
    have rc := Row.refs_len c
    refine ⟨_, rfl, rfl, _, rfl, nt (x := "pay") (y := "own") (by decide +kernel) ?_⟩
    refine ⟨_, rfl, rfl, _, rfl, nt (x := "pay") (y := "cite") (by decide +kernel) ?_⟩
    refine ⟨_, rfl, rfl, _, rfl, nt (x := "pay") (y := "make") (by decide +kernel) ?_⟩
    refine ⟨_, rfl, rfl, _, rfl, nt (x := "pay") (y := "offer") (by decide +kernel) ?_⟩
    refine ⟨_, rfl, 1, rfl, a, _, -1, vb, rfl, rfl, hs, by rfl, _, rfl, _, _, rfl, rfl, vb, b, l + 1, rfl, gb, by omega, hok.2.2, by omega, fun H1 D1 s1 n1 c1 => ⟨_, rfl, D1, .str "once", .int l, _, .once, b.refs, rfl, c1, .str _, trivial, .inr ⟨l, rfl⟩, Row.sup b (l + 1), by omega, fun H2 B s2 n2 c2 => ?_⟩⟩
    rw [lbox_wo] at c2
    have s12 := s1.trans s2
    have nB := s1.free n2
    have pc := (Row.pos l hok.2.1).box hok.1
    have pb := (Row.pos (t := b) (l + 1) hok.2.2).wo (l := l)
    refine ⟨_, rfl, rfl, _, rfl, nt (x := "pay") (y := "cut") (by decide +kernel) ?_⟩
    refine ⟨fun σ' H' => ∃ (F : Addr), σ' = [some (.ref a), some (.int l), some (.str "pay"), some (.ref F)] ∧ Same H H' ∧ H F = none ∧ TD K H' F (cadd (cwo l (b.cnt (l + 1))) (cbox kd (c.cnt l))), ?_, ?_⟩
    · refine ⟨_, rfl, rfl, _, rfl, yt ?_⟩
      refine ⟨_, rfl, _, rfl, a, _, 3, vc, rfl, rfl, s12.seqT hs, atI_at (j := 3) rfl rfl, _, rfl, vc, c, l, rfl, Dp.sm s12 _ _ gc, by omega, hok.2.1, by omega, fun H3 D3 s3 n3 c3 => ?_⟩
      have s13 := s12.trans s3
      refine ⟨_, rfl, a, _, 2, vk, rfl, rfl, s13.seqT hs, atI_at (j := 2) rfl rfl, D3, vk, .non, _, kd, c.refs, rfl, c3, Dp.sm s13 _ _ gk, hok.1, .inl rfl, Row.sup c l, by omega, fun H4 D4 s4 n4 c4 => ?_⟩
      rw [lbox_box] at c4
      exact ⟨B, D4, false, _, _, b.refs ++ c.refs, rfl, c2.sm (s3.trans s4), c4, pb, pc, (Row.sup b (l + 1)).wo.mono fun _ m => List.mem_append_left _ m, (Row.sup c l).box.mono fun _ m => List.mem_append_right _ m, by rw [List.length_append]; omega, fun H5 D5 s5 n5 c5 => ⟨D5, rfl, s13.trans (s4.trans s5), s13.free (s4.free n5), c5⟩⟩
    rintro σ' H4 ⟨F, rfl, s4, nF, c4⟩
    refine ⟨_, rfl, rfl, _, rfl, nt (x := "pay") (y := "take") (by decide +kernel) ?_⟩
    refine ⟨_, rfl, fun D nD => ⟨_, rfl, a, _, 1, kV r, rfl, rfl, (Same.new nD).seqT (s4.seqT hs), atI_at (j := 1) rfl rfl, (by show 3 ≤ 1000; decide), fun H5 z s5 nz h5 => ?_⟩⟩
    obtain ⟨hD, s6, c6⟩ := td_one (K := K) (r := r) nD s5 nz h5
    refine ⟨hD, [(r, .ref z)], rfl, (by show 1 ≤ 15; decide), F, D, false, _, _, r :: (b.refs ++ c.refs), rfl, c4.sm s6, c6, pb.add pc, Pos.one r, ((((Row.sup b (l + 1)).wo.mono fun _ m => List.mem_append_left _ m).add ((Row.sup c l).box.mono fun _ m => List.mem_append_right _ m))).mono fun _ m => .tail _ m, Sup.one (.head _), by rw [List.length_cons, List.length_append]; omega, fun H7 D7 s7 n7 c7 => ?_⟩
    rw [mrg_no, cadd_comm, cadd_comm (cwo l (b.cnt (l + 1))), ← cadd_assoc] at c7
    exact q H7 D7 (s4.trans (s6.trans s7)) (s4.free (s6.free n7)) c7
theorem ok_lcounts (T : Tx K w mg) : ∀ n : Nat, FnOk P w K mg base CX0 (n + 1) T.a__law_counts T.d__law_counts ["tree", "level"] (spLcounts K n)
  | 0 => by
    have no : ∀ vs H Q E, ¬ spLcounts K 0 vs H Q E := fun vs H Q E h => by
      obtain ⟨v, t, l, _, _, hn, _⟩ := h
      have := t.ht_pos
      omega
    exact ⟨fun vs H Q E h => absurd h (no vs H Q E), fun A outer s H args us vs Q E _ _ _ _ h => absurd h (no vs H Q E)⟩
  | n + 1 => lcounts_step T (ok_lcounts T n)
end
end HA

/-! The claim that is due; the same data. -/
namespace HA
open PySem PySem.Spec PyProof.Rows L2 HX
mutual
/-- data of numbers, texts and tuples -/
def pl : PyData → Bool
  | .int _ => true
  | .str _ => true
  | .tuple ds => decide (ds.length ≤ 1000) && plAll ds
  | _ => false
def plAll : List PyData → Bool
  | [] => true
  | d :: ds => pl d && plAll ds
end
theorem plAll_at : ∀ {ds : List PyData} {i : Nat} {d : PyData}, plAll ds = true → ds[i]? = some d → pl d = true
  | [], _, _, _, e => by cases e
  | x :: l, 0, d, h, e => by
    have h' : (pl x && plAll l) = true := h
    rw [Bool.and_eq_true] at h'
    cases e
    exact h'.1
  | x :: l, i + 1, d, h, e => by
    have h' : (pl x && plAll l) = true := h
    rw [Bool.and_eq_true] at h'
    exact plAll_at (ds := l) (i := i) h'.2 e
theorem depth_at : ∀ {ds : List PyData} {i : Nat} {d : PyData}, ds[i]? = some d → d.depth ≤ PyData.depthAll ds
  | [], _, _, e => by cases e
  | x :: l, 0, d, e => by
    cases e
    simp only [PyData.depthAll]
    omega
  | x :: l, i + 1, d, e => by
    have := depth_at (ds := l) (i := i) e
    simp only [PyData.depthAll]
    omega
theorem pl_key (r : Key) : pl (kD r) = true := by cases r <;> rfl
theorem pl_kd (k : Kd) : pl k.d = true := by cases k <;> rfl
theorem pl_sn (s : Sn) : pl s.d = true := by
  induction s with
  | word x => rfl
  | menu a b h1 h2 =>
    show (true && (pl a.d && (pl b.d && true))) = true
    rw [h1, h2]; rfl
  | trade k a b h1 h2 =>
    show (true && (pl k.d && (pl a.d && (pl b.d && true)))) = true
    rw [h1, h2, pl_kd]; rfl
theorem pl_row (t : Row) : pl t.d = true := by
  have tup : ∀ ds : List PyData, ds.length ≤ 1000 → plAll ds = true → pl (.tuple ds) = true := fun ds h1 h2 => by
    show (decide (ds.length ≤ 1000) && plAll ds) = true
    rw [decide_eq_true h1, h2]; rfl
  induction t with
  | own r => exact tup _ (by show 2 ≤ 1000; decide) (by show (true && (pl (kD r) && true)) = true; rw [pl_key]; rfl)
  | cite x => rfl
  | take b h => exact tup _ (by show 2 ≤ 1000; decide) (by show (true && (pl b.d && true)) = true; rw [h]; rfl)
  | pick r s b h => exact tup _ (by show 4 ≤ 1000; decide) (by show (true && (pl (kD r) && (true && (pl b.d && true)))) = true; rw [pl_key, h]; rfl)
  | make x i b h => exact tup _ (by show 4 ≤ 1000; decide) (by show (true && (true && (true && (pl b.d && true)))) = true; rw [h]; rfl)
  | opn r x i b h => exact tup _ (by show 5 ≤ 1000; decide) (by show (true && (pl (kD r) && (true && (true && (pl b.d && true))))) = true; rw [pl_key, h]; rfl)
  | offer a b h1 h2 => exact tup _ (by show 3 ≤ 1000; decide) (by show (true && (pl a.d && (pl b.d && true))) = true; rw [h1, h2]; rfl)
  | pay r k a b h1 h2 => exact tup _ (by show 5 ≤ 1000; decide) (by show (true && (pl (kD r) && (pl k.d && (pl a.d && (pl b.d && true))))) = true; rw [pl_key, pl_kd, h1, h2]; rfl)
  | cut k s a b h1 h2 => exact tup _ (by show 5 ≤ 1000; decide) (by show (true && (pl k.d && (pl s.d && (pl a.d && (pl b.d && true))))) = true; rw [pl_kd, pl_sn, h1, h2]; rfl)
theorem pl_hold (h : Hold) : pl h.d = true := by
  show (true && (true && (pl h.kd.d && (pl h.sn.d && true)))) = true
  rw [pl_kd, pl_sn]; rfl
theorem pl_holds (l : List Hold) : plAll (l.map Hold.d) = true := by
  induction l with
  | nil => rfl
  | cons h l ih =>
    show (pl h.d && plAll (l.map Hold.d)) = true
    rw [pl_hold, ih]; rfl
theorem pl_clm {c : Clm} (h : c.hs.length ≤ 1000) : pl c.d = true := by
  show (true && ((decide ((c.hs.map Hold.d).length ≤ 1000) && plAll (c.hs.map Hold.d)) && (pl c.goal.d && true))) = true
  rw [List.length_map, decide_eq_true h, pl_holds, pl_sn]; rfl
theorem kit_sb {K : PySem.W.Frag} : PySem.W.kitOne K (.type "str") (.type "bool") = some false := kit_ty (by decide +kernel)
theorem yv {A B : Prop} {x : V} (a : A) : if decide (x = x) = true then A else B := by rw [if_pos (decide_eq_true rfl)]; exact a
section
variable {P : Program} {w : World} {K : PySem.W.Frag} {mg : Str → Option Value} {base : Heap}
theorem TpAt.kl {L : Addr} {H H' : Hp} {v : V} {t : T3} {ws : List V} (hL : H L = some (.lst ws)) (k : Kp [L] H H') (h : TpAt K H v t) : TpAt K H' v t := let ⟨a, h1, h2⟩ := h; ⟨a, h1, k.seqT (Lsts.one hL) h2⟩
def spSame (K : PySem.W.Frag) (N : Nat) : Sp := fun vs H Q _ => ∃ (v u : V) (d : PyData), vs = [v, u] ∧ Dp K H v d ∧ Dp K H u d ∧ pl d = true ∧ d.depth < N ∧ ∀ H', Same H H' → Q (.bl true) H'
theorem same_step (T : Tx K w mg) {N : Nat} (G__law_same : FnOk P w K mg base CX0 (N + 1) T.a__law_same T.d__law_same ["told", "due"] (spSame K N)) :
    FnOk P w K mg base CX0 (N + 2) T.a__law_same T.d__law_same ["told", "due"] (spSame K (N + 1)) := by
  refine T.F__law_same.ok sc__law_same (fun vs H Q E h => ?_) (fun cdv A outer s H vs Q E hr h => ?_)
  · obtain ⟨v, u, d, rfl, _⟩ := h
    rfl
  obtain ⟨v, u, d, rfl, hv, hu, hp, hd, q⟩ := h
  refine ⟨_, (pss_cons (ps_if (PW.pt (pw_or (pt_not (pt_val (pe_callB call_isi (by rfl) T.z_isinstance (by decide +kernel) (pa_cons (pv 0) (pa_cons (pe_bltn (v := .ty "tuple") (by rfl) T.z_tuple (by decide +kernel) rfl) pa_nil))))) (pw_or1 (pt_not (pt_val (pe_callB call_isi (by rfl) T.z_isinstance (by decide +kernel) (pa_cons (pv 1) (pa_cons (pe_bltn (v := .ty "tuple") (by rfl) T.z_tuple (by decide +kernel) rfl) pa_nil))))))))
      (pss_one (ps_ret (pe_and (pe_cmpR op_eq (pe_callB call_isi (by rfl) T.z_isinstance (by decide +kernel) (pa_cons (pv 0) (pa_cons (pe_bltn (v := .ty "int") (by rfl) T.z_int (by decide +kernel) rfl) pa_nil))) (pe_callB call_isi (by rfl) T.z_isinstance (by decide +kernel) (pa_cons (pv 1) (pa_cons (pe_bltn (v := .ty "int") (by rfl) T.z_int (by decide +kernel) rfl) pa_nil))) (nomark _)) (pe_and (pe_not (pe_callB call_isi (by rfl) T.z_isinstance (by decide +kernel) (pa_cons (pv 0) (pa_cons (pe_bltn (v := .ty "bool") (by rfl) T.z_bool (by decide +kernel) rfl) pa_nil)))) (pe_one (pe_cmpR op_eq (pv 0) (pv 1) (nomark _)))))))
      pss_nil)
    (pss_one (ps_ret (pe_and (pe_cmpR op_eq (pe_callB call_len_seq (by rfl) T.z_len (by decide +kernel) (pa_cons (pv 0) pa_nil)) (pe_callB call_len_seq (by rfl) T.z_len (by decide +kernel) (pa_cons (pv 1) pa_nil)) (nomark _)) (pe_one (pe_notT (pe_lc (own := [("k", 2)]) (g := gName 2) rfl sc__law_same.nd (pi_range1 (by rfl) T.z_range (pa_cons (pe_callB call_len_seq (by rfl) T.z_len (by decide +kernel) (pa_cons (pv 1) pa_nil)) pa_nil)) (blkOk_by (own := [("k", 2)]) (N := N__law_same) (sc := defScope s__law_same) (by decide +kernel)) (fun _ _ _ _ _ => pg_name (i := 2) sc__law_same.nd rfl (Or.inl rfl)) (fun _ _ _ _ _ => pts_one (pt_not (pt_val (pe_call (G__law_same) hr (by rfl) T.g__law_same T.k__law_same T.b__law_same .nil pass0 (pa_cons (pe_ix (ix_tupK (K := K) rfl) (pv 0) (pv 2) (fun _ _ => rfl)) (pa_cons (pe_ix (ix_tupK (K := K) rfl) (pv 1) (pv 2) (fun _ _ => rfl)) pa_nil)))))) (fun _ _ _ _ _ => (pv 2))))))))), ?_⟩
  cases d with
  | int i =>
    obtain rfl := hv.int_inv
    obtain rfl := hu.int_inv
    refine ⟨_, rfl, _, _, _, _, _, rfl, .ty _, ty_int i, kit_it, _, rfl, iteT ?_⟩
    refine ⟨_, rfl, _, _, _, _, _, rfl, .ty _, ty_int i, kit_ii, _, rfl, _, _, _, _, _, rfl, .ty _, ty_int i, kit_ii, rfl, _, rfl, yv ?_⟩
    refine ⟨_, rfl, _, _, _, _, _, rfl, .ty _, ty_int i, kit_ib, _, rfl, _, rfl, iteT ?_⟩
    refine ⟨_, rfl, _, rfl, rfl, ?_⟩
    rw [decide_eq_true rfl]
    exact q H (Same.refl H)
  | str x =>
    obtain rfl := hv.str_inv
    obtain rfl := hu.str_inv
    refine ⟨_, rfl, _, _, _, _, _, rfl, .ty _, ty_str x, kit_st, _, rfl, iteT ?_⟩
    refine ⟨_, rfl, _, _, _, _, _, rfl, .ty _, ty_str x, kit_si, _, rfl, _, _, _, _, _, rfl, .ty _, ty_str x, kit_si, rfl, _, rfl, yv ?_⟩
    refine ⟨_, rfl, _, _, _, _, _, rfl, .ty _, ty_str x, kit_sb, _, rfl, _, rfl, iteT ?_⟩
    refine ⟨_, rfl, _, rfl, rfl, ?_⟩
    rw [decide_eq_true rfl]
    exact q H (Same.refl H)
  | tuple ds =>
    obtain ⟨a, xs, rfl, ha, hx⟩ := hv.tup_inv
    obtain ⟨b, ys, rfl, hb, hy⟩ := hu.tup_inv
    have hp' : (decide (ds.length ≤ 1000) && plAll ds) = true := hp
    rw [Bool.and_eq_true, decide_eq_true_iff] at hp'
    have lx := hx.len
    have ly := hy.len
    refine ⟨_, rfl, _, _, _, _, _, rfl, .ty _, ty_tup ha, kit_tt, _, rfl, iteF ?_⟩
    refine ⟨_, rfl, _, _, _, _, _, rfl, .ty _, ty_tup hb, kit_tt, _, rfl, iteF ?_⟩
    refine ⟨_, rfl, a, _, rfl, .inr ha, _, rfl, b, _, rfl, .inr hb, rfl, _, rfl, ?_⟩
    rw [lx, ly]
    refine yv ?_
    refine ⟨_, rfl, b, _, rfl, .inr hb, _, rfl, by omega, by omega, fun D nD => ?_⟩
    refine lc_range (fun i H' => Same H H' ∧ H' D = some (.lst [])) ⟨Same.new nD, upd_same⟩ ?_ ?_
    · rintro i H' hi ⟨s', hD⟩
      have hi' : i < ds.length := by omega
      have hdi : ds[i]? = some ds[i] := List.getElem?_eq_getElem hi'
      obtain ⟨x, hxi, hxd⟩ := hx.at hdi
      obtain ⟨y, hyi, hyd⟩ := hy.at hdi
      have dep := depth_at hdi
      have dd : (PyData.tuple ds).depth = PyData.depthAll ds + 1 := by simp only [PyData.depth]
      refine ⟨rfl, _, rfl, _, rfl, a, _, _, x, rfl, rfl, s'.seqT ha, atI_at (j := i) (by omega) hxi, _, rfl, _, rfl, b, _, _, y, rfl, rfl, s'.seqT hb, atI_at (j := i) (by omega) hyi, x, y, ds[i], rfl, Dp.sm s' _ _ hxd, Dp.sm s' _ _ hyd, plAll_at hp'.2 hdi, by omega, fun H2 s2 => ⟨_, rfl, iteF ⟨s'.trans s2, s2 _ _ hD⟩⟩⟩
    · rintro H' ⟨s', hD⟩
      exact ⟨false, .inl ⟨_, SqL.of hD, rfl⟩, q H' s'⟩
  | none => cases hp
  | bool b => cases hp
  | list l => cases hp
  | dict l => cases hp
theorem ok_same (T : Tx K w mg) : ∀ N : Nat, FnOk P w K mg base CX0 (N + 1) T.a__law_same T.d__law_same ["told", "due"] (spSame K N)
  | 0 => by
    have no : ∀ vs H Q E, ¬ spSame K 0 vs H Q E := fun vs H Q E h => by
      obtain ⟨v, u, d, _, _, _, _, hd, _⟩ := h
      omega
    exact ⟨fun vs H Q E h => absurd h (no vs H Q E), fun A outer s H args us vs Q E _ _ _ _ h => absurd h (no vs H Q E)⟩
  | N + 1 => same_step T (ok_same T N)
def spFitted (K : PySem.W.Frag) (n : Nat) : Sp := fun vs H Q _ => ∃ (v u : V) (c : Clm) (t : Row), vs = [v, u] ∧ Dp K H v c.d ∧ Dp K H u t.d ∧ t.ht ≤ n ∧ t.ok ∧ t.sz ≤ 2000 ∧ c.hs.length ≤ 30 ∧
  ∀ H' r, Same H H' → Dp K H' r (c.fit (t.cnt 0)).d → Q r H'
theorem ok_fitted (T : Tx K w mg) {n : Nat} : FnOk P w K mg base CX0 (n + 2) T.a__law_fitted T.d__law_fitted ["claim", "tree"] (spFitted K n) := by
  have G__law_counts := ok_lcounts (P := P) (base := base) T n
  refine T.F__law_fitted.ok sc__law_fitted (fun vs H Q E h => ?_) (fun cdv A outer s H vs Q E hr h => ?_)
  · obtain ⟨v, u, c, t, rfl, _⟩ := h
    rfl
  obtain ⟨v, u, c, t, rfl, hv, hu, ht, hok, hz, few, q⟩ := h
  refine ⟨_, (pss_cons (ps_set (i := 2) sc__law_fitted.nd rfl (Or.inl rfl) (pe_call (G__law_counts) hr (by rfl) T.g__law_counts T.k__law_counts T.b__law_counts .nil pass0 (pa_cons (pv 1) (pa_cons pe_int pa_nil))))
    (pss_cons (ps_set (i := 3) sc__law_fitted.nd rfl (Or.inl rfl) (pe_lstN pa_nil))
    (pss_cons (ps_for PassesOwn.never rfl (pi_tup (pe_ix ix_tup (pv 0) pe_int (fun _ _ => rfl))) (pg_name (i := 4) sc__law_fitted.nd rfl (Or.inl rfl))
      (pss_one (ps_if (pt_cmpR (op_eqD hr.units) (pe_ix ix_tup (pv 4) pe_int (fun _ _ => rfl)) pe_str (nomark _))
        (pss_one (ps_expr (pe_bm PySem.F.plainAttrs_list PySem.F.slot_list_append PySem.F.type_list_append mt_append (pv 3) (pa_cons (pv 4) pa_nil))))
        (pss_one (ps_if (pt_cmp (pc_din (hu_of hr) (pe_ix ix_tup (pv 4) pe_int (fun _ _ => rfl)) (pv 2)))
          (pss_one (ps_expr (pe_bm PySem.F.plainAttrs_list PySem.F.slot_list_append PySem.F.type_list_append mt_append (pv 3) (pa_cons (pe_tupN (pa_cons (pe_ix ix_tup (pv 4) pe_int (fun _ _ => rfl)) (pa_cons (pe_tupN (pa_cons (pe_ix ix_tup (pe_dget (hu_of hr) (pv 2) (pe_ix ix_tup (pv 4) pe_int (fun _ _ => rfl)) (fun _ _ => rfl)) pe_int (fun _ _ => rfl)) (pa_cons (pe_ix ix_tup (pe_dget (hu_of hr) (pv 2) (pe_ix ix_tup (pv 4) pe_int (fun _ _ => rfl)) (fun _ _ => rfl)) pe_int (fun _ _ => rfl)) pa_nil))) (pa_cons (pe_ix ix_tup (pv 4) pe_int (fun _ _ => rfl)) pa_nil)))) pa_nil))))
          pss_nil)))))
    (pss_one (ps_ret (pe_tupN (pa_cons (pe_callTy call_tupleN (by rfl) T.z_tuple (by decide +kernel) (pa_cons (pv 3) pa_nil)) (pa_cons (pe_ix ix_tup (pv 0) pe_int (fun _ _ => rfl)) pa_nil)))))))), ?_⟩
  refine ⟨_, rfl, u, t, 0, rfl, hu, ht, hok, hz, fun H1 F s1 nF cd => ?_⟩
  obtain ⟨a, b, g, xs, rfl, ha, hb, hx, hg⟩ := clm_at (Dp.sm s1 _ _ hv)
  have lx := hx.len
  rw [List.length_map] at lx
  refine ⟨Nat.zero_le _, fun H2 L s2 nL hL => ?_⟩
  obtain ⟨kvs, hF, nd, rel⟩ := cd.sm s2
  have LF : F ≠ L := ne_of hF hL (by intro z; cases z)
  refine ⟨_, rfl, a, _, 0, .ref b, rfl, rfl, s2.seqT ha, atI_at (j := 0) rfl rfl, b, rfl, ⟨_, s2.seqT hb⟩, ?_⟩
  refine for_tup (xs := xs) (fun i σ' H' => ∃ (y1 : Option V) (ws : List V), σ' = [some (.ref a), some u, some (.ref F), some (.ref L), y1] ∧ Kp [L] H2 H' ∧ H' L = some (.lst ws) ∧ DpAll K H' ws (((c.hs.take i).filterMap (fitH (t.cnt 0))).map Hold.d))
    ⟨none, [], rfl, Kp.refl _, hL, .nil⟩ ?_ ?_ ?_
  · rintro i σ' H' _ ⟨_, _, _, k', _, _⟩
    exact k'.seqT (Lsts.one hL) (s2.seqT hb)
  · rintro i z σ' H' hi ⟨y1, ws, rfl, k', hL', hw⟩
    obtain ⟨h, hh, hz⟩ := hold_get hx hi
    have hz' := Dp.kp k' (Lsts.one hL) _ _ h.tu (Dp.sm s2 _ _ hz)
    obtain ⟨p, yk, s, rfl, hp, hy, hs⟩ := hold_at hz'
    have et : (c.hs.take (i + 1)) = c.hs.take i ++ [h] := by rw [List.take_add_one, hh]; rfl
    have lw := hw.len
    have lf := List.length_filterMap_le (fitH (t.cnt 0)) (c.hs.take i)
    rw [List.length_take] at lf
    rw [List.length_map] at lw
    refine ⟨_, rfl, p, _, 1, yk, rfl, rfl, hp, atI_at (j := 1) rfl rfl, h.kd.d, .str "once", hy, .str _, shaped_kd _, shaped_once, _, rfl, ?_⟩
    rw [eqv_once]
    refine iteB (fun c1 => ?_) fun c1 => ?_
    · have e : h.kd = .once := of_decide_eq_true c1
      refine ⟨_, rfl, .inl ⟨rfl, _, SqL.of hL'⟩, _, rfl, L, ws, _, rfl, rfl, hL', sz_lt (by omega), ?_⟩
      refine ⟨_, _, rfl, k'.trans (Kp.wr (.head _)), upd_same, ?_⟩
      rw [et, List.filterMap_append, List.map_append, show List.filterMap (fitH (t.cnt 0)) [h] = [h] by
        rw [List.filterMap_cons, show fitH (t.cnt 0) h = some h by unfold fitH; rw [e]]; rfl]
      exact grown hL' hw hz' (holds_tu _) (Hold.tu _)
    · have e : ¬ h.kd = .once := of_decide_eq_false c1
      have ef : fitH (t.cnt 0) h = (t.cnt 0 (.inr h.nm)).map fun t => ⟨h.nm, .st t.2.1 t.2.2, h.sn⟩ := by
        unfold fitH
        cases ek : h.kd with
        | once => exact absurd ek e
        | st n k => rfl
      have hF' : H' F = some (.dK kvs) := k' _ _ (lone LF) hF
      have d0 : DGet H' F (kV (.inr h.nm)) (valV kvs (.inr h.nm)) := DGet.k (k := .inr h.nm) hF'
      have r0 := rel (.inr h.nm)
      refine ⟨_, rfl, p, _, 0, .str h.nm, rfl, rfl, hp, atI_at (j := 0) rfl rfl, _, rfl, F, _, rfl, d0, _, rfl, ?_⟩
      cases ec : t.cnt 0 (.inr h.nm) with
      | none =>
        rw [ec] at r0 ef
        rw [orel_none r0]
        refine iteF ⟨_, _, rfl, k', hL', ?_⟩
        rw [et, List.filterMap_append, show List.filterMap (fitH (t.cnt 0)) [h] = [] by
          rw [List.filterMap_cons, show fitH (t.cnt 0) h = none from ef]; rfl, List.append_nil]
        exact hw
      | some t3 =>
        rw [ec] at r0 ef
        obtain ⟨vc, evc, cc⟩ := orel_some r0
        rw [evc] at d0 ⊢
        obtain ⟨ac, rfl, hc⟩ := cc.kl hL k'
        refine iteT ?_
        refine ⟨_, rfl, .inl ⟨rfl, _, SqL.of hL'⟩, _, rfl, p, _, 0, .str h.nm, rfl, rfl, hp, atI_at (j := 0) rfl rfl,
          _, rfl, _, rfl, p, _, 0, .str h.nm, rfl, rfl, hp, atI_at (j := 0) rfl rfl, F, _, rfl, d0, ac, _, 1, _, rfl, rfl, hc, atI_at (j := 1) rfl rfl,
          _, rfl, _, rfl, p, _, 0, .str h.nm, rfl, rfl, hp, atI_at (j := 0) rfl rfl, F, _, rfl, d0, ac, _, 2, _, rfl, rfl, hc, atI_at (j := 2) rfl rfl, (by show 2 ≤ 1000; decide), fun H3 r3 s3 n3 hr3 =>
          ⟨_, rfl, p, _, 2, s, rfl, rfl, s3.seqT hp, atI_at (j := 2) rfl rfl, (by show 3 ≤ 1000; decide), fun H4 r4 s4 n4 hr4 => ?_⟩⟩
        have hL4 := s4 _ _ (s3 _ _ hL')
        refine ⟨L, ws, _, rfl, rfl, hL4, sz_lt (by omega), ?_⟩
        refine ⟨_, _, rfl, (k'.trans (Kp.of (s3.trans s4))).trans (Kp.wr (.head _)), upd_same, ?_⟩
        rw [et, List.filterMap_append, List.map_append, show List.filterMap (fitH (t.cnt 0)) [h] = [⟨h.nm, .st t3.2.1 t3.2.2, h.sn⟩] by
          rw [List.filterMap_cons, show fitH (t.cnt 0) h = _ from ef]; rfl]
        exact grown hL4 (Dp.smAll (s3.trans s4) _ _ hw) (.tup (SqT.of hr4) (.cons (.str _) (.cons (.tup (s4.seqT (SqT.of hr3)) (.cons (.int _) (.cons (.int _) .nil))) (.cons (Dp.sm (s3.trans s4) _ _ hs) .nil)))) (holds_tu _) (Hold.tu _)
  · rintro σ' H' ⟨y1, ws, rfl, k', hL', hw⟩
    rw [lx, List.take_length] at hw
    refine ⟨_, rfl, L, ws, rfl, .inl (SqL.of hL'), fun H3 t3 s3 ht3 => ?_⟩
    have ha' := s3.seqT (k'.seqT (Lsts.one hL) (s2.seqT ha))
    refine ⟨_, rfl, a, _, 1, g, rfl, rfl, ha', atI_at (j := 1) rfl rfl, (by show 2 ≤ 1000; decide), fun H4 r s4 nr hr4 => ?_⟩
    refine q H4 _ (((Same.kp (s1.trans s2) k' (s1.free nL)).trans s3).trans s4) (clm_mk (SqT.of hr4) (s4.seqT ht3) (Dp.smAll (s3.trans s4) _ _ hw) ?_)
    exact Dp.sm (s3.trans s4) _ _ (Dp.kp k' (Lsts.one hL) _ _ (Sn.tu _) (Dp.sm s2 _ _ hg))
/-- what may be asked of a claim and a derivation -/
structure Pr (c : Clm) (t : Row) : Prop where
  few : c.hs.length ≤ 30
  all : ∀ h ∈ c.hs, h.sn.ok ∧ h.kd.pos
  goal : c.goal.d.depth ≤ 12
  tok : t.ok
  th : t.ht ≤ 65
  tz : t.sz ≤ 2000
  td : t.d.depth ≤ 80
theorem Pr.ok {c : Clm} {t : Row} (h : Pr c t) : c.ok := ⟨h.few, h.all⟩
theorem holds_dep {l : List Hold} (h : ∀ x ∈ l, x.sn.d.depth ≤ 10) : PyData.depthAll (l.map Hold.d) ≤ 11 := by
  induction l with
  | nil => simp [PyData.depthAll]
  | cons x l ih =>
    have h1 := h x (.head _)
    have h2 := ih fun y m => h y (.tail _ m)
    have h3 := kd_dep x.kd
    simp only [List.map_cons, PyData.depthAll, Hold.d, PyData.depth]
    omega
theorem clm_dep {c : Clm} (h : ∀ x ∈ c.hs, x.sn.d.depth ≤ 10) (g : c.goal.d.depth ≤ 12) : c.d.depth ≤ 14 := by
  have := holds_dep h
  simp only [Clm.d, PyData.depth, PyData.depthAll]
  omega
theorem fit_sn {f : CF} {c : Clm} {h : Hold} (m : h ∈ (c.fit f).hs) : ∃ g ∈ c.hs, h.sn = g.sn := by
  obtain ⟨g, gm, e⟩ := List.mem_filterMap.mp m
  refine ⟨g, gm, ?_⟩
  unfold fitH at e
  cases ek : g.kd with
  | once => rw [ek] at e; cases e; rfl
  | st n k =>
    rw [ek] at e
    obtain ⟨t, _, rfl⟩ := Option.map_eq_some_iff.mp e
    rfl
def spLeast (K : PySem.W.Frag) : Sp := fun vs H Q _ => ∃ (v u : V) (c : Clm) (t : Row), vs = [v, u] ∧ Dp K H v c.d ∧ Dp K H u t.d ∧ Pr c t ∧ ∀ H', Same H H' → Q (.bl true) H'
theorem ok_least (T : Tx K w mg) {k : Nat} : FnOk P w K mg base CX0 (k + 81) T.a__law_least T.d__law_least ["claim", "tree"] (spLeast K) := by
  have G__law_fitted := ok_fitted (P := P) (base := base) T (n := k + 78)
  have G_least_kinds := ok_least_kinds (P := P) (base := base) T (n := k + 74)
  have G__law_same := ok_same (P := P) (base := base) T (k + 79)
  refine T.F__law_least.ok sc__law_least (fun vs H Q E h => ?_) (fun cdv A outer s H vs Q E hr h => ?_)
  · obtain ⟨v, u, c, t, rfl, _⟩ := h
    rfl
  obtain ⟨v, u, c, t, rfl, hv, hu, pr, q⟩ := h
  obtain ⟨few, all, goal, tok, th, tz, td⟩ := pr
  refine ⟨_, (pss_cons (ps_set (i := 2) sc__law_least.nd rfl (Or.inl rfl) (pe_call (G__law_fitted) hr (by rfl) T.g__law_fitted T.k__law_fitted T.b__law_fitted .nil pass0 (pa_cons (pv 0) (pa_cons (pv 1) pa_nil))))
    (pss_one (ps_ret (pe_call (G__law_same) hr (by rfl) T.g__law_same T.k__law_same T.b__law_same .nil pass0 (pa_cons (pe_call (G_least_kinds) hr (by rfl) T.g_least_kinds T.k_least_kinds T.b_least_kinds .nil pass0 (pa_cons (pv 0) (pa_cons (pv 1) pa_nil))) (pa_cons (pv 2) pa_nil)))))), ?_⟩
  refine ⟨_, rfl, _, rfl, v, u, c, t, rfl, hv, hu, by omega, tok, tz, few, fun H1 r1 s1 h1 => ?_⟩
  refine ⟨_, rfl, _, rfl, v, u, c, t, rfl, Dp.sm s1 _ _ hv, Dp.sm s1 _ _ hu, by omega, tok, tz, few, fun H2 r2 s2 h2 => ?_⟩
  have lf := List.length_filterMap_le (fitH (t.cnt 0)) c.hs
  have dep : (c.fit (t.cnt 0)).d.depth ≤ 14 := clm_dep (fun x m => by
    obtain ⟨g, gm, e⟩ := fit_sn m
    rw [e]
    exact (all g gm).1.2) (show c.goal.d.depth ≤ 12 by omega)
  exact ⟨_, rfl, r2, r1, _, rfl, h2, Dp.sm s2 _ _ h1, pl_clm (show (c.hs.filterMap (fitH (t.cnt 0))).length ≤ 1000 by omega), by omega, fun H3 s3 => q H3 ((s1.trans s2).trans s3)⟩
end
end HA

/-! What is due of claims mended. -/
namespace HA
open PySem PySem.Spec PyProof.Rows L2 HX
/-- an answer that is due -/
def DueAt (K : PySem.W.Frag) (H : Hp) (r : V) : Ans → Prop
  | .told d => ∃ p w, r = .ref p ∧ SqT K H p [.str "told", w] ∧ Dp K H w d
  | .unknown z => ∃ p, r = .ref p ∧ SqL K H p [.str "unknown", .str z]
  | .room z => ∃ p, r = .ref p ∧ SqL K H p [.str "room", .str z]
theorem DueAt.sm {K : PySem.W.Frag} {H H' : Hp} {r : V} {a : Ans} (s : Same H H') (h : DueAt K H r a) : DueAt K H' r a := by
  cases a with
  | told d => obtain ⟨p, w, e, h1, h2⟩ := h; exact ⟨p, w, e, s.seqT h1, Dp.sm s _ _ h2⟩
  | unknown z => obtain ⟨p, e, h1⟩ := h; exact ⟨p, e, s.seq h1⟩
  | room z => obtain ⟨p, e, h1⟩ := h; exact ⟨p, e, s.seq h1⟩
section
variable {P : Program} {w : World} {K : PySem.W.Frag} {mg : Str → Option Value} {base : Heap}
def spRowOf (K : PySem.W.Frag) : Sp := fun vs H Q _ => ∃ (v : V) (c : Clm) (x : Str), vs = [v, .str x] ∧ Dp K H v c.d ∧ (∀ h r, c.row x = some h → Dp K H r h.d → Q r H) ∧ (c.row x = none → Q .non H)
theorem ok_row_of (T : Tx K w mg) {k : Nat} : FnOk P w K mg base CX0 (k + 1) T.a__law_row_of T.d__law_row_of ["claim", "name"] (spRowOf K) := by
  refine T.F__law_row_of.ok sc__law_row_of (fun vs H Q E h => ?_) (fun cdv A outer s H vs Q E hr h => ?_)
  · obtain ⟨v, c, x, rfl, _⟩ := h
    rfl
  obtain ⟨v, c, x, rfl, hv, q1, q0⟩ := h
  obtain ⟨a, b, u, xs, rfl, ha, hb, hx, hu⟩ := clm_at hv
  have lx := hx.len
  rw [List.length_map] at lx
  refine ⟨_, (pss_cons (ps_for PassesOwn.never rfl (pi_tup (pe_ix ix_tup (pv 0) pe_int (fun _ _ => rfl))) (pg_name (i := 2) sc__law_row_of.nd rfl (Or.inl rfl))
      (pss_one (ps_if (pt_cmpR op_eq (pe_ix ix_tup (pv 2) pe_int (fun _ _ => rfl)) (pv 1) (nomark _))
        (pss_one (ps_ret (pv 2)))
        pss_nil)))
    (pss_one (ps_ret pe_non))), ?_⟩
  refine ⟨_, rfl, a, _, 0, .ref b, rfl, rfl, ha, atI_at (j := 0) rfl rfl, b, rfl, ⟨_, hb⟩, ?_⟩
  refine for_tup (xs := xs) (fun i σ' H' => ∃ y : Option V, σ' = [some (.ref a), some (.str x), y] ∧ H' = H ∧ c.row x = Clm.row ⟨c.hs.drop i, c.goal⟩ x) ⟨none, rfl, rfl, rfl⟩ ?_ ?_ ?_
  · rintro i σ' H' _ ⟨_, _, rfl, _⟩
    exact hb
  · rintro i z σ' H' hi ⟨y, rfl, eH, e⟩
    have eH' := eH.symm
    subst eH'
    obtain ⟨h, hh, hz⟩ := hold_get hx hi
    obtain ⟨p, yk, s, rfl, hp, hy, hs⟩ := hold_at hz
    rw [drop_at hh, row_cons] at e
    refine ⟨_, rfl, p, _, 0, .str h.nm, rfl, rfl, hp, atI_at (j := 0) rfl rfl, _, rfl, rfl, _, rfl, iteB (fun c1 => ?_) (fun c1 => ?_)⟩
    · have eq : h.nm = x := V.str.inj (of_decide_eq_true c1)
      rw [if_pos eq] at e
      exact ⟨_, rfl, q1 h _ e hz⟩
    · have ne : ¬ h.nm = x := fun z => of_decide_eq_false c1 (by rw [z])
      rw [if_neg ne] at e
      exact ⟨_, rfl, rfl, e⟩
  · rintro σ' H' ⟨y, rfl, eH, e⟩
    have eH' := eH.symm
    subst eH'
    rw [lx, List.drop_length] at e
    exact q0 e
def spParts (K : PySem.W.Frag) : Sp := fun vs H Q _ => ∃ (v : V) (t : Row), vs = [v] ∧ Dp K H v t.d ∧ ∀ H' p ws, Same H H' → H p = none → H' p = some (.lst ws) → DpAll K H' ws (t.kids.map Row.d) → Q (.ref p) H'
theorem ok_parts (T : Tx K w mg) {k : Nat} : FnOk P w K mg base CX0 (k + 2) T.a__law_parts T.d__law_parts ["tree"] (spParts K) := by
  have G__law_row := ok_row (P := P) (base := base) T (k := k)
  refine T.F__law_parts.ok sc__law_parts (fun vs H Q E h => ?_) (fun cdv A outer s H vs Q E hr h => ?_)
  · obtain ⟨v, t, rfl, _⟩ := h
    rfl
  obtain ⟨v, t, rfl, hv, q⟩ := h
  obtain ⟨a, xs, rfl, hs, hx⟩ := Row.at_ hv
  refine ⟨_, (pss_one (ps_ret (pe_lc (own := [("item", 1)]) (g := gName 1) rfl sc__law_parts.nd (pi_tup (pe_slice sl_tupN (pv 0) (po_some pe_int) po_none)) (blkOk_by (own := [("item", 1)]) (N := N__law_parts) (sc := defScope s__law_parts) (by decide +kernel)) (fun _ _ _ _ _ => pg_name (i := 1) sc__law_parts.nd rfl (Or.inl rfl)) (fun _ _ _ _ _ => pts_one (pt_val (pe_call (G__law_row) hr (by rfl) T.g__law_row T.k__law_row T.b__law_row .nil pass0 (pa_cons (pv 1) pa_nil)))) (fun _ _ _ _ _ => (pv 1))))), ?_⟩
  refine ⟨_, rfl, 1, rfl, a, _, rfl, hs, fun H1 b s1 hb => ⟨b, rfl, ⟨_, hb⟩, fun D nD => ?_⟩⟩
  rw [show (1 : Int) = ((1 : Nat) : Int) from rfl, cut_from] at hb
  have hb' : SqT K H1 b xs := hb
  have lx := hx.len
  have l1 := t.len_mid
  have l2 := t.len_kids
  rw [List.length_append, List.length_map] at lx
  have items : ∀ d ∈ t.mid ++ t.kids.map Row.d, ItemOk d ∧ tu d = true := fun d m => by
    rcases List.mem_append.mp m with m' | m'
    · refine ⟨(item_mid t d m').1, ?_⟩
      have h1 := t.tu
      rw [Row.d_eq] at h1
      obtain ⟨i, hi⟩ := List.getElem?_of_mem m
      exact tuAll_at (i + 1) (.str t.name :: (t.mid ++ t.kids.map Row.d)) d h1 hi
    · obtain ⟨c, _, rfl⟩ := List.mem_map.mp m'
      exact ⟨(item_row c).1, c.tu⟩
  have flt : (t.mid ++ t.kids.map Row.d).filter rowD = t.kids.map Row.d := by
    rw [List.filter_append, List.filter_eq_nil_iff.mpr fun d m => by rw [(item_mid t d m).2]; decide, List.nil_append, List.filter_eq_self.mpr fun d m => by
      obtain ⟨c, _, rfl⟩ := List.mem_map.mp m
      exact (item_row c).2]
  have tf : ∀ n, tuAll (((t.mid ++ t.kids.map Row.d).take n).filter rowD) = true := fun n => by
    have all : ∀ l : List PyData, (∀ d ∈ l, tu d = true) → tuAll l = true := fun l => by
      induction l with
      | nil => exact fun _ => rfl
      | cons x l ih =>
        intro h
        show (tu x && tuAll l) = true
        rw [h x (.head _), ih fun d m => h d (.tail _ m)]; rfl
    exact all _ fun d m => (items d (List.mem_of_mem_take (List.mem_filter.mp m).1)).2
  refine lc_tup (xs := xs) (fun i H' => Same H1 H' ∧ ∃ acc, H' D = some (.lst acc) ∧ DpAll K H' acc (((t.mid ++ t.kids.map Row.d).take i).filter rowD)) ⟨Same.new nD, [], upd_same, .nil⟩ (fun i H' _ pv => pv.1.seqT hb') (fun i z H' hi pv => ?_) fun H' pv => ?_
  · obtain ⟨s', acc, hD, hacc⟩ := pv
    obtain ⟨d, hd, hz⟩ := hx.atV hi
    have m := List.mem_of_getElem? hd
    have hz' := Dp.sm (s1.trans s') _ _ hz
    have et : (t.mid ++ t.kids.map Row.d).take (i + 1) = (t.mid ++ t.kids.map Row.d).take i ++ [d] := by rw [List.take_add_one, hd]; rfl
    have la : acc.length ≤ 100000 := by
      have h1 := hacc.len
      have h2 := List.length_filter_le rowD ((t.mid ++ t.kids.map Row.d).take i)
      rw [List.length_take, List.length_append, List.length_map] at h2
      omega
    refine ⟨rfl, _, rfl, z, d, rfl, hz', (items d m).1, fun H2 s2 => ⟨_, rfl, iteB (fun c1 => ?_) (fun c1 => ?_)⟩⟩
    · refine ⟨_, rfl, acc, s2 _ _ hD, sz_lt la, Same.mut (s'.trans s2) nD, acc ++ [z], upd_same, ?_⟩
      rw [et, List.filter_append, show List.filter rowD [d] = [d] by rw [List.filter_cons, if_pos c1]; rfl]
      exact grown (s2 _ _ hD) (Dp.smAll s2 _ _ hacc) (Dp.sm s2 _ _ hz') (tf i) (items d m).2
    · refine ⟨s'.trans s2, acc, s2 _ _ hD, ?_⟩
      rw [et, List.filter_append, show List.filter rowD [d] = [] by rw [List.filter_cons, if_neg (by rw [c1]; decide)]; rfl, List.append_nil]
      exact Dp.smAll s2 _ _ hacc
  · obtain ⟨s', acc, hD, hacc⟩ := pv
    rw [show xs.length = (t.mid ++ t.kids.map Row.d).length by rw [List.length_append, List.length_map]; omega, List.take_length, flt] at hacc
    exact q H' D acc (s1.trans s') (s1.free nD) hD hacc
def spLpooled (K : PySem.W.Frag) (n : Nat) : Sp := fun vs H Q _ => ∃ (v u : V) (c : Clm) (t : Row) (x y : Str), vs = [v, u, .str x, .str y] ∧ Dp K H v c.d ∧ Dp K H u t.d ∧ t.ht ≤ n ∧ c.ok ∧ ∀ H' r, Same H H' → DueAt K H' r (poolA c t x y) → Q r H'
theorem ok_lpooled (T : Tx K w mg) {k : Nat} : FnOk P w K mg base CX0 (k + 2) T.a__law_pooled T.d__law_pooled ["claim", "tree", "first", "second"] (spLpooled K k) := by
  have G__law_row_of := ok_row_of (P := P) (base := base) T (k := k)
  have G__law_moved := ok_lmoved (P := P) (base := base) T k
  refine T.F__law_pooled.ok sc__law_pooled (fun vs H Q E h => ?_) (fun cdv A outer s H vs Q E hr h => ?_)
  · obtain ⟨v, u, c, t, x, y, rfl, _⟩ := h
    rfl
  obtain ⟨v, u, c, t, x, y, rfl, hv, hu, ht, ok, q⟩ := h
  refine ⟨_, (pss_cons (ps_set (i := 4) sc__law_pooled.nd rfl (Or.inl rfl) (pe_call (G__law_row_of) hr (by rfl) T.g__law_row_of T.k__law_row_of T.b__law_row_of .nil pass0 (pa_cons (pv 0) (pa_cons (pv 2) pa_nil))))
    (pss_cons (ps_set (i := 5) sc__law_pooled.nd rfl (Or.inl rfl) (pe_call (G__law_row_of) hr (by rfl) T.g__law_row_of T.k__law_row_of T.b__law_row_of .nil pass0 (pa_cons (pv 0) (pa_cons (pv 3) pa_nil))))
    (pss_cons (ps_if (pt_cmpR op_isN (pv 4) pe_non (nomark _))
      (pss_one (ps_ret (pe_lstN (pa_cons pe_str (pa_cons (pv 2) pa_nil)))))
      pss_nil)
    (pss_cons (ps_if (pt_cmpR op_isN (pv 5) pe_non (nomark _))
      (pss_one (ps_ret (pe_lstN (pa_cons pe_str (pa_cons (pv 3) pa_nil)))))
      pss_nil)
    (pss_cons (ps_if (PW.pt (pw_or (pt_cmpR op_eq (pv 2) (pv 3) (nomark _)) (pw_or (pt_cmpR (op_neD hr.units) (pe_ix ix_tup (pv 4) pe_int (fun _ _ => rfl)) (pe_ix ix_tup (pv 5) pe_int (fun _ _ => rfl)) (nomark _)) (pw_or1 (pt_cmpR (op_inT (un65 hr)) pe_str (pe_tupN (pa_cons (pe_ix ix_tup (pv 4) pe_int (fun _ _ => rfl)) (pa_cons (pe_ix ix_tup (pv 5) pe_int (fun _ _ => rfl)) pa_nil))) (by rfl))))))
      (pss_one (ps_ret (pe_lstN (pa_cons pe_str (pa_cons (pv 3) pa_nil)))))
      pss_nil)
    (pss_cons (ps_set (i := 6) sc__law_pooled.nd rfl (Or.inl rfl) (pe_tupN (pa_cons (pe_op op_add (pe_ix ix_tup (pe_ix ix_tup (pv 4) pe_int (fun _ _ => rfl)) pe_int (fun _ _ => rfl)) (pe_ix ix_tup (pe_ix ix_tup (pv 5) pe_int (fun _ _ => rfl)) pe_int (fun _ _ => rfl))) (pa_cons (pe_callB (call_max2 rfl) (by rfl) T.z_max (by decide +kernel) (pa_cons (pe_ix ix_tup (pe_ix ix_tup (pv 4) pe_int (fun _ _ => rfl)) pe_int (fun _ _ => rfl)) (pa_cons (pe_ix ix_tup (pe_ix ix_tup (pv 5) pe_int (fun _ _ => rfl)) pe_int (fun _ _ => rfl)) pa_nil))) pa_nil))))
    (pss_cons (ps_set (i := 7) sc__law_pooled.nd rfl (Or.inl rfl) (pe_lstN pa_nil))
    (pss_cons (ps_for PassesOwn.never rfl (pi_tup (pe_ix ix_tup (pv 0) pe_int (fun _ _ => rfl))) (pg_name (i := 8) sc__law_pooled.nd rfl (Or.inl rfl))
      (pss_one (ps_if (pt_cmpR op_eq (pe_ix ix_tup (pv 8) pe_int (fun _ _ => rfl)) (pv 2) (nomark _))
        (pss_one (ps_expr (pe_bm PySem.F.plainAttrs_list PySem.F.slot_list_append PySem.F.type_list_append mt_append (pv 7) (pa_cons (pe_tupN (pa_cons (pv 2) (pa_cons (pv 6) (pa_cons (pe_ix ix_tup (pv 8) pe_int (fun _ _ => rfl)) pa_nil)))) pa_nil))))
        (pss_one (ps_if (pt_cmpR op_ne (pe_ix ix_tup (pv 8) pe_int (fun _ _ => rfl)) (pv 3) (nomark _))
          (pss_one (ps_expr (pe_bm PySem.F.plainAttrs_list PySem.F.slot_list_append PySem.F.type_list_append mt_append (pv 7) (pa_cons (pv 8) pa_nil))))
          pss_nil)))))
    (pss_one (ps_ret (pe_tupN (pa_cons pe_str (pa_cons (pe_tupN (pa_cons (pe_tupN (pa_cons (pe_callTy call_tupleN (by rfl) T.z_tuple (by decide +kernel) (pa_cons (pv 7) pa_nil)) (pa_cons (pe_ix ix_tup (pv 0) pe_int (fun _ _ => rfl)) pa_nil))) (pa_cons (pe_call (G__law_moved) hr (by rfl) T.g__law_moved T.k__law_moved T.b__law_moved .nil pass0 (pa_cons (pv 1) (pa_cons pe_int (pa_cons pe_int (pa_cons (pe_disp (pps_cons (pv 3) (pv 2) pps_nil) (by rfl) (by rfl) (fun z => by cases z) (by decide)) pa_nil))))) pa_nil))) pa_nil))))))))))))), ?_⟩
  cases ex : c.row x with
  | none =>
    have q' : ∀ H' r, Same H H' → DueAt K H' r (.unknown x) → Q r H' := by
      unfold poolA at q
      rw [ex] at q
      exact q
    have fin : ∀ y5 : Option V, tRet (tLstN (tCons (tC (.str "unknown")) (tCons (tVar 2) tNil))) { nx := fun x H' => Q V.non H', rt := Q } [some v, some u, some (.str x), some (.str y), some .non, y5, none, none, none] H := fun y5 =>
      ⟨_, rfl, (by show 2 ≤ 1000; decide), fun H1 p s1 np hp => q' H1 _ s1 ⟨p, rfl, SqL.of hp⟩⟩
    refine ⟨_, rfl, _, rfl, v, c, x, rfl, hv, fun h r e => (by rw [ex] at e; cases e), fun _ => ?_⟩
    refine ⟨_, rfl, _, rfl, v, c, y, rfl, hv, fun h r e hr' => ?_, fun _ => ?_⟩
    · exact ⟨_, rfl, rfl, _, rfl, yv (fin _)⟩
    · exact ⟨_, rfl, rfl, _, rfl, yv (fin _)⟩
  | some g =>
    have nn : ∀ {h : Hold} {r : V}, Dp K H r h.d → ¬ r = .non := fun hr' z => by
      obtain ⟨p, _, _, e, _⟩ := hold_at hr'
      rw [e] at z
      cases z
    refine ⟨_, rfl, _, rfl, v, c, x, rfl, hv, fun g' r1 e1 hr1 => ?_, fun e => by rw [ex] at e; cases e⟩
    rw [ex] at e1
    cases e1
    cases ey : c.row y with
    | none =>
      have q' : ∀ H' r, Same H H' → DueAt K H' r (.unknown y) → Q r H' := by
        unfold poolA at q
        rw [ex, ey] at q
        exact q
      refine ⟨_, rfl, _, rfl, v, c, y, rfl, hv, fun h r e => (by rw [ey] at e; cases e), fun _ => ?_⟩
      refine ⟨_, rfl, rfl, _, rfl, ?_⟩
      rw [decide_eq_false (nn hr1)]
      refine iteF ⟨_, rfl, rfl, _, rfl, yv ?_⟩
      exact ⟨_, rfl, (by show 2 ≤ 1000; decide), fun H1 p s1 np hp => q' H1 _ s1 ⟨p, rfl, SqL.of hp⟩⟩
    | some h =>
      refine ⟨_, rfl, _, rfl, v, c, y, rfl, hv, fun h' r2 e2 hr2 => ?_, fun e => by rw [ey] at e; cases e⟩
      rw [ey] at e2
      cases e2
      have q' : ∀ H' r, Same H H' → DueAt K H' r (match (if x = y ∨ g.sn ≠ h.sn then none else g.kd.plus h.kd) with
        | none => .room y
        | some k => .told (pairD (c.pool x y k) (t.mv 0 0 (ren1 y (.inr x))))) → Q r H' := by
        unfold poolA Clm.joint at q
        rw [ex, ey] at q
        exact q
      clear q
      refine ⟨_, rfl, rfl, _, rfl, ?_⟩
      rw [decide_eq_false (nn hr1)]
      refine iteF ⟨_, rfl, rfl, _, rfl, ?_⟩
      rw [decide_eq_false (nn hr2)]
      refine iteF ?_
      obtain ⟨p1, y1, z1, rfl, hp1, hy1, hz1⟩ := hold_at hr1
      obtain ⟨p2, y2, z2, rfl, hp2, hy2, hz2⟩ := hold_at hr2
      have okg := ok.all g (row_mem ex).1
      have okh := ok.all h (row_mem ey).1
      refine ⟨_, rfl, _, rfl, rfl, _, rfl, iteB (fun c1 => ?_) fun c1 => ?_⟩
      · have e : x = y := V.str.inj (of_decide_eq_true c1)
        rw [if_pos (.inl e)] at q'
        exact ⟨_, rfl, (by show 2 ≤ 1000; decide), fun H1 p s1 np hp => q' H1 _ s1 ⟨p, rfl, SqL.of hp⟩⟩
      have ne : ¬ x = y := fun z => of_decide_eq_false c1 (by rw [z])
      refine ⟨_, rfl, p1, _, 2, z1, rfl, rfl, hp1, atI_at (j := 2) rfl rfl, _, rfl, p2, _, 2, z2, rfl, rfl, hp2, atI_at (j := 2) rfl rfl, g.sn.d, h.sn.d, hz1, hz2, okg.1.sh, okh.1.sh, _, rfl, ?_⟩
      rw [sn_eqv]
      refine iteB (fun c2 => ?_) fun c2 => ?_
      · have e : g.sn ≠ h.sn := fun z => by
          rw [decide_eq_true z] at c2
          cases c2
        rw [if_pos (.inr e)] at q'
        exact ⟨_, rfl, (by show 2 ≤ 1000; decide), fun H1 p s1 np hp => q' H1 _ s1 ⟨p, rfl, SqL.of hp⟩⟩
      have es : ¬ g.sn ≠ h.sn := fun z => by
        rw [decide_eq_false z] at c2
        cases c2
      rw [if_neg fun z => z.elim ne es] at q'
      refine ⟨_, rfl, p1, _, 1, y1, rfl, rfl, hp1, atI_at (j := 1) rfl rfl, _, rfl, p2, _, 1, y2, rfl, rfl, hp2, atI_at (j := 1) rfl rfl, (by show 2 ≤ 1000; decide), fun H3 p3 s3 n3 h3 => ?_⟩
      refine ⟨.str "once", [g.kd.d, h.kd.d], .str _, .tup (SqT.of h3) (.cons (Dp.sm s3 _ _ hy1) (.cons (Dp.sm s3 _ _ hy2) .nil)), shaped_once, shaped_two _ _, _, rfl, ?_⟩
      rw [once_in]
      cases ep : g.kd.plus h.kd with
      | none =>
        rw [ep] at q'
        exact iteT ⟨_, rfl, (by show 2 ≤ 1000; decide), fun H1 p s1 np hp => q' H1 _ (s3.trans s1) ⟨p, rfl, SqL.of hp⟩⟩
      | some kd =>
        rw [ep] at q'
        refine iteF ?_
        obtain ⟨n, d, eg⟩ : ∃ n d, g.kd = .st n d := by
          cases e : g.kd with
          | once => rw [e] at ep; cases ep
          | st n d => exact ⟨n, d, rfl⟩
        obtain ⟨m, f, eh⟩ : ∃ n d, h.kd = .st n d := by
          cases e : h.kd with
          | once => rw [eg, e] at ep; cases ep
          | st n d => exact ⟨n, d, rfl⟩
        have ekd : kd = .st (n + m) (max d f) := by
          rw [eg, eh] at ep
          cases ep
          rfl
        rw [eg] at hy1
        rw [eh] at hy2
        obtain ⟨ka, n', d', e', rfl, hka⟩ := (dp_kd hy1).resolve_left fun z => by cases z.1
        cases e'
        obtain ⟨kb, m', f', e', rfl, hkb⟩ := (dp_kd hy2).resolve_left fun z => by cases z.1
        cases e'
        have hp1' := s3.seqT hp1
        have hp2' := s3.seqT hp2
        have hka' := s3.seqT hka
        have hkb' := s3.seqT hkb
        refine ⟨_, rfl, p1, _, 1, .ref ka, rfl, rfl, hp1', atI_at (j := 1) rfl rfl, ka, _, 0, .int n, rfl, rfl, hka', atI_at (j := 0) rfl rfl, _, rfl, p2, _, 1, .ref kb, rfl, rfl, hp2', atI_at (j := 1) rfl rfl, kb, _, 0, .int m, rfl, rfl, hkb', atI_at (j := 0) rfl rfl, _, _, rfl, rfl, ?_⟩
        refine ⟨_, rfl, p1, _, 1, .ref ka, rfl, rfl, hp1', atI_at (j := 1) rfl rfl, ka, _, 1, .int d, rfl, rfl, hka', atI_at (j := 1) rfl rfl, _, rfl, p2, _, 1, .ref kb, rfl, rfl, hp2', atI_at (j := 1) rfl rfl, kb, _, 1, .int f, rfl, rfl, hkb', atI_at (j := 1) rfl rfl, _, _, rfl, ?_⟩
        rw [max_if]
        refine ⟨(by show 2 ≤ 1000; decide), fun H4 r4 s4 n4 h4 => ?_⟩
        have hk4 : Dp K H4 (.ref r4) kd.d := by
          rw [ekd]
          exact .tup (SqT.of h4) (.cons (.int _) (.cons (.int _) .nil))
        have s04 := s3.trans s4
        refine ⟨Nat.zero_le _, fun H5 L s5 nL hL => ?_⟩
        have s05 := s04.trans s5
        obtain ⟨a, b, gg, xs, rfl, ha, hb, hx, hg⟩ := clm_at (Dp.sm s05 _ _ hv)
        have lx := hx.len
        rw [List.length_map] at lx
        have few := ok.few
        refine ⟨_, rfl, a, _, 0, .ref b, rfl, rfl, ha, atI_at (j := 0) rfl rfl, b, rfl, ⟨_, hb⟩, ?_⟩
        refine for_tup (xs := xs) (fun i σ' H' => ∃ (y8 : Option V) (ws : List V), σ' = [some (.ref a), some u, some (.str x), some (.str y), some (.ref p1), some (.ref p2), some (.ref r4), some (.ref L), y8] ∧ Kp [L] H5 H' ∧ H' L = some (.lst ws) ∧ DpAll K H' ws ((((c.hs.take i).filter fun h => decide (h.nm ≠ y)).map (Hold.kind x kd)).map Hold.d))
          ⟨none, [], rfl, Kp.refl _, hL, .nil⟩ ?_ ?_ ?_
        · rintro i σ' H' _ ⟨_, _, _, k', _, _⟩
          exact k'.seqT (Lsts.one hL) hb
        · rintro i z σ' H' hi ⟨y8, ws, rfl, k', hL', hw⟩
          obtain ⟨o, hh, hz⟩ := hold_get hx hi
          have hz' := Dp.kp k' (Lsts.one hL) _ _ o.tu hz
          obtain ⟨p, yk, sk, rfl, hp, hy, hs⟩ := hold_at hz'
          have et : (c.hs.take (i + 1)) = c.hs.take i ++ [o] := by rw [List.take_add_one, hh]; rfl
          have lw := hw.len
          have lf := List.length_filter_le (fun h : Hold => decide (h.nm ≠ y)) (c.hs.take i)
          rw [List.length_take] at lf
          rw [List.length_map, List.length_map] at lw
          refine ⟨_, rfl, p, _, 0, .str o.nm, rfl, rfl, hp, atI_at (j := 0) rfl rfl, _, rfl, rfl, _, rfl, iteB (fun c3 => ?_) fun c3 => ?_⟩
          · have eq : o.nm = x := V.str.inj (of_decide_eq_true c3)
            refine ⟨_, rfl, .inl ⟨rfl, _, SqL.of hL'⟩, _, rfl, _, rfl, _, rfl, p, _, 2, sk, rfl, rfl, hp, atI_at (j := 2) rfl rfl, (by show 3 ≤ 1000; decide), fun H6 r6 s6 n6 h6 => ?_⟩
            have hL6 := s6 _ _ hL'
            refine ⟨L, ws, _, rfl, rfl, hL6, sz_lt (by omega), _, _, rfl, (k'.trans (Kp.of s6)).trans (Kp.wr (.head _)), upd_same, ?_⟩
            rw [et, List.filter_append, show List.filter (fun h : Hold => decide (h.nm ≠ y)) [o] = [o] by simp [eq, ne], List.map_append, List.map_append]
            refine grown hL6 (Dp.smAll s6 _ _ hw) ?_ (holds_tu _) (Hold.tu _)
            unfold Hold.kind
            rw [if_pos eq]
            exact .tup (SqT.of h6) (.cons (.str _) (.cons (Dp.sm s6 _ _ (Dp.kp k' (Lsts.one hL) _ _ (Kd.tu kd) (Dp.sm s5 _ _ hk4))) (.cons (Dp.sm s6 _ _ hs) .nil)))
          · have ne3 : ¬ o.nm = x := fun z => of_decide_eq_false c3 (by rw [z])
            refine ⟨_, rfl, p, _, 0, .str o.nm, rfl, rfl, hp, atI_at (j := 0) rfl rfl, _, rfl, rfl, _, rfl, iteB (fun c4 => ?_) fun c4 => ?_⟩
            · have ne4 : o.nm ≠ y := fun e => by
                rw [show (!decide (V.str o.nm = V.str y)) = false by rw [e, decide_eq_true rfl]; rfl] at c4
                cases c4
              refine ⟨_, rfl, .inl ⟨rfl, _, SqL.of hL'⟩, _, rfl, L, ws, _, rfl, rfl, hL', sz_lt (by omega), _, _, rfl, k'.trans (Kp.wr (.head _)), upd_same, ?_⟩
              rw [et, List.filter_append, show List.filter (fun h : Hold => decide (h.nm ≠ y)) [o] = [o] by simp [ne4], List.map_append, List.map_append]
              refine grown hL' hw ?_ (holds_tu _) (Hold.tu _)
              unfold Hold.kind
              rw [if_neg ne3]
              exact hz'
            · have eq4 : o.nm = y := by
                by_cases e : o.nm = y
                · exact e
                · rw [show (!decide (V.str o.nm = V.str y)) = true by rw [decide_eq_false fun z => e (V.str.inj z)]; rfl] at c4
                  cases c4
              refine ⟨_, _, rfl, k', hL', ?_⟩
              rw [et, List.filter_append, show List.filter (fun h : Hold => decide (h.nm ≠ y)) [o] = [] by simp [eq4], List.append_nil]
              exact hw
        · rintro σ' H6 ⟨y8, ws, rfl, k', hL', hw⟩
          rw [lx, List.take_length] at hw
          have s06 : Same H H6 := Same.kp s05 k' (s04.free nL)
          refine ⟨_, rfl, L, ws, rfl, .inl (SqL.of hL'), fun H7 t7 s7 h7 => ?_⟩
          have ha7 := s7.seqT (k'.seqT (Lsts.one hL) ha)
          refine ⟨_, rfl, a, _, 1, gg, rfl, rfl, ha7, atI_at (j := 1) rfl rfl, (by show 2 ≤ 1000; decide), fun H8 r8 s8 n8 h8 => ?_⟩
          have hclm : Dp K H8 (.ref r8) (c.pool x y kd).d := clm_mk (SqT.of h8) (s8.seqT h7) (Dp.smAll (s7.trans s8) _ _ hw) (Dp.sm (s7.trans s8) _ _ (Dp.kp k' (Lsts.one hL) _ _ (Sn.tu _) hg))
          have s08 := (s06.trans s7).trans s8
          refine ⟨_, rfl, fun D nD => ⟨_, rfl, _, rfl, upd_same, [(.inr y, .str x)], rfl, (by show 1 ≤ 15; decide), ?_⟩⟩
          rw [upd_upd]
          have s9 : Same H8 (upd H8 D (.dK [(.inr y, .str x)])) := Same.new nD
          refine ⟨u, t, 0, 0, D, ren1 y (.inr x), rfl, Dp.sm (s08.trans s9) _ _ hu, ht, upd_same, fun H10 r10 s10 h10 => ⟨(by show 2 ≤ 1000; decide), fun H11 r11 s11 n11 h11 => ⟨(by show 2 ≤ 1000; decide), fun H12 r12 s12 n12 h12 => ?_⟩⟩⟩
          have s812 := (s9.trans s10).trans (s11.trans s12)
          exact q' H12 _ (s08.trans s812) ⟨r12, .ref r11, rfl, SqT.of h12, .tup (s12.seqT (SqT.of h11)) (.cons (Dp.sm s812 _ _ hclm) (.cons (Dp.sm (s11.trans s12) _ _ h10) .nil))⟩
end
end HA

/-! What is tried, and what agrees. -/
namespace HA
open PySem PySem.Spec PyProof.Rows L2 HX
section
variable {P : Program} {w : World} {K : PySem.W.Frag} {mg : Str → Option Value} {base : Heap}
def spLtaken (K : PySem.W.Frag) (n : Nat) : Sp := fun vs H Q _ => ∃ (v u : V) (c : Clm) (t : Row) (x : Str), vs = [v, u, .str x] ∧ Dp K H v c.d ∧ Dp K H u t.d ∧ t.ht ≤ n ∧ c.hs.length ≤ 30 ∧ ∀ H' r, Same H H' → DueAt K H' r (liftA c t x) → Q r H'
theorem ok_ltaken (T : Tx K w mg) {k : Nat} : FnOk P w K mg base CX0 (k + 2) T.a__law_taken T.d__law_taken ["claim", "tree", "name"] (spLtaken K k) := by
  have G__law_row_of := ok_row_of (P := P) (base := base) T (k := k)
  have G__law_moved := ok_lmoved (P := P) (base := base) T k
  refine T.F__law_taken.ok sc__law_taken (fun vs H Q E h => ?_) (fun cdv A outer s H vs Q E hr h => ?_)
  · obtain ⟨v, u, c, t, x, rfl, _⟩ := h
    rfl
  obtain ⟨v, u, c, t, x, rfl, hv, hu, ht, few, q⟩ := h
  refine ⟨_, (pss_cons (ps_set (i := 3) sc__law_taken.nd rfl (Or.inl rfl) (pe_call (G__law_row_of) hr (by rfl) T.g__law_row_of T.k__law_row_of T.b__law_row_of .nil pass0 (pa_cons (pv 0) (pa_cons (pv 2) pa_nil))))
    (pss_cons (ps_if (pt_cmpR op_isN (pv 3) pe_non (nomark _))
      (pss_one (ps_ret (pe_lstN (pa_cons pe_str (pa_cons (pv 2) pa_nil)))))
      pss_nil)
    (pss_cons (ps_set (i := 4) sc__law_taken.nd rfl (Or.inl rfl) (pe_callTy call_tupleN (by rfl) T.z_tuple (by decide +kernel) (pa_cons (pe_lc (own := [("other", 6)]) (g := gName 6) rfl sc__law_taken.nd (pi_tup (pe_ix ix_tup (pv 0) pe_int (fun _ _ => rfl))) (blkOk_by (own := [("other", 6)]) (N := N__law_taken) (sc := defScope s__law_taken) (by decide +kernel)) (fun _ _ _ _ _ => pg_name (i := 6) sc__law_taken.nd rfl (Or.inl rfl)) (fun _ _ _ _ _ => pts_one (pt_cmpR op_ne (pe_ix (ix_tupK (K := K) rfl) (pv 6) pe_int (fun _ _ => rfl)) (pv 2) (nomark _))) (fun _ _ _ _ _ => (pv 6))) pa_nil)))
    (pss_cons (ps_set (i := 5) sc__law_taken.nd rfl (Or.inl rfl) (pe_tupN (pa_cons pe_str (pa_cons (pe_ix ix_tup (pv 3) pe_int (fun _ _ => rfl)) (pa_cons (pe_ix ix_tup (pv 3) pe_int (fun _ _ => rfl)) (pa_cons (pe_ix ix_tup (pv 0) pe_int (fun _ _ => rfl)) pa_nil))))))
    (pss_one (ps_ret (pe_tupN (pa_cons pe_str (pa_cons (pe_tupN (pa_cons (pe_tupN (pa_cons (pv 4) (pa_cons (pv 5) pa_nil))) (pa_cons (pe_tupN (pa_cons pe_str (pa_cons (pe_call (G__law_moved) hr (by rfl) T.g__law_moved T.k__law_moved T.b__law_moved .nil pass0 (pa_cons (pv 1) (pa_cons pe_int (pa_cons pe_int (pa_cons (pe_disp (pps_cons (pv 2) pe_int pps_nil) (by rfl) (by rfl) (fun z => by cases z) (by decide)) pa_nil))))) pa_nil))) pa_nil))) pa_nil))))))))), ?_⟩
  refine ⟨_, rfl, _, rfl, v, c, x, rfl, hv, fun g r1 ex hr1 => ?_, fun ex => ?_⟩
  rotate_left
  · unfold liftA at q
    rw [ex] at q
    refine ⟨_, rfl, rfl, _, rfl, yv ?_⟩
    exact ⟨_, rfl, (by show 2 ≤ 1000; decide), fun H1 p s1 np hp => q H1 _ s1 ⟨p, rfl, SqL.of hp⟩⟩
  obtain ⟨p1, y1, z1, rfl, hp1, hy1, hz1⟩ := hold_at hr1
  have q2 : ∀ H' r, Same H H' → DueAt K H' r (.told (pairD (c.lift x g) (liftR t x))) → Q r H' := by
    unfold liftA at q
    rw [ex] at q
    exact q
  refine ⟨_, rfl, rfl, _, rfl, ?_⟩
  rw [decide_eq_false (show ¬ V.ref p1 = .non by intro z; cases z)]
  refine iteF ?_
  obtain ⟨a, b, gg, xs, rfl, ha, hb, hx, hg⟩ := clm_at hv
  have lx := hx.len
  rw [List.length_map] at lx
  refine ⟨_, rfl, a, _, 0, .ref b, rfl, rfl, ha, atI_at (j := 0) rfl rfl, b, rfl, ⟨_, hb⟩, fun D nD => ?_⟩
  refine lc_tup (xs := xs) (fun i H2 => Same H H2 ∧ ∃ acc, H2 D = some (.lst acc) ∧ DpAll K H2 acc (((c.hs.take i).filter fun h => decide (h.nm ≠ x)).map Hold.d))
    ⟨Same.new nD, [], upd_same, .nil⟩ (fun i H2 _ pv => pv.1.seqT hb) (fun i z H2 hi pv => ?_) fun H2 pv => ?_
  · obtain ⟨s2, acc, hD, hacc⟩ := pv
    obtain ⟨h, hh, hz⟩ := hold_get hx hi
    have hz2 := Dp.sm s2 _ _ hz
    obtain ⟨p, y, s, rfl, hp, hy, hs⟩ := hold_at hz2
    have et : (c.hs.take (i + 1)) = c.hs.take i ++ [h] := by rw [List.take_add_one, hh]; rfl
    refine ⟨rfl, _, rfl, p, _, 0, .str h.nm, rfl, rfl, hp, atI_at (j := 0) rfl rfl, _, rfl, rfl, _, rfl, iteB (fun c1 => ?_) (fun c1 => ?_)⟩
    · have ne : h.nm ≠ x := fun e => by
        rw [show (!decide (V.str h.nm = V.str x)) = false by rw [e, decide_eq_true rfl]; rfl] at c1
        cases c1
      have la : acc.length ≤ 100000 := by
        have h1 := hacc.len
        have h2 := List.length_filter_le (fun h : Hold => decide (h.nm ≠ x)) (c.hs.take i)
        rw [List.length_map] at h1
        rw [List.length_take] at h2
        omega
      refine ⟨_, rfl, acc, hD, sz_lt la, Same.mut s2 nD, acc ++ [.ref p], upd_same, ?_⟩
      rw [et, List.filter_append, show List.filter (fun h : Hold => decide (h.nm ≠ x)) [h] = [h] by simp [ne], List.map_append]
      exact grown hD hacc hz2 (holds_tu _) h.tu
    · have eq : h.nm = x := by
        by_cases e : h.nm = x
        · exact e
        · rw [show (!decide (V.str h.nm = V.str x)) = true by rw [decide_eq_false fun z => e (V.str.inj z)]; rfl] at c1
          cases c1
      refine ⟨s2, acc, hD, ?_⟩
      rw [et, List.filter_append, show List.filter (fun h : Hold => decide (h.nm ≠ x)) [h] = [] by simp [eq], List.append_nil]
      exact hacc
  · obtain ⟨s2, acc, hD, hacc⟩ := pv
    rw [lx, List.take_length] at hacc
    refine ⟨D, acc, rfl, .inl (SqL.of hD), fun H3 rt s3 hrt => ?_⟩
    have s03 := s2.trans s3
    refine ⟨_, rfl, p1, _, 1, y1, rfl, rfl, s03.seqT hp1, atI_at (j := 1) rfl rfl, _, rfl, p1, _, 2, z1, rfl, rfl, s03.seqT hp1, atI_at (j := 2) rfl rfl, _, rfl, a, _, 1, gg, rfl, rfl, s03.seqT ha, atI_at (j := 1) rfl rfl, (by show 4 ≤ 1000; decide), fun H4 r4 s4 n4 h4 => ?_⟩
    have s04 := s03.trans s4
    refine ⟨_, rfl, _, rfl, (by show 2 ≤ 1000; decide), fun H5 r5 s5 n5 h5 => ?_⟩
    have s05 := s04.trans s5
    refine ⟨_, rfl, fun D2 nD2 => ⟨_, rfl, upd_same, [(.inr x, .int 0)], rfl, (by show 1 ≤ 15; decide), ?_⟩⟩
    rw [upd_upd]
    have s6 : Same H5 (upd H5 D2 (.dK [(.inr x, .int 0)])) := Same.new nD2
    refine ⟨u, t, 0, 1, D2, ren1 x (.inl 0), rfl, Dp.sm (s05.trans s6) _ _ hu, ht, upd_same, fun H7 r7 s7 h7 => ⟨(by show 2 ≤ 1000; decide), fun H8 r8 s8 n8 h8 => ⟨(by show 2 ≤ 1000; decide), fun H9 r9 s9 n9 h9 => ⟨(by show 2 ≤ 1000; decide), fun H10 r10 s10 n10 h10 => ?_⟩⟩⟩⟩
    have s510 := (s6.trans s7).trans ((s8.trans s9).trans s10)
    have s410 := s5.trans s510
    have s310 := s4.trans s410
    refine q2 H10 _ (s03.trans s310) ⟨r10, .ref r9, rfl, SqT.of h10, .tup (s10.seqT (SqT.of h9)) (.cons (.tup (s510.seqT (SqT.of h5)) (.cons (.tup (s310.seqT hrt) (Dp.smAll (s3.trans s310) _ _ hacc)) (.cons ?_ .nil))) (.cons (.tup ((s9.trans s10).seqT (SqT.of h8)) (.cons (.str _) (.cons (Dp.sm ((s8.trans s9).trans s10) _ _ h7) .nil))) .nil))⟩
    exact .tup (s410.seqT (SqT.of h4)) (.cons (.str _) (.cons (Dp.sm (s03.trans s310) _ _ hy1) (.cons (Dp.sm (s03.trans s310) _ _ hz1) (.cons (Dp.sm (s03.trans s310) _ _ hg) .nil))))
def spLwide (K : PySem.W.Frag) : Sp := fun vs H Q _ => ∃ (v u : V) (c : Clm) (x : Str) (k : Kd), vs = [v, .str x, u] ∧ Dp K H v c.d ∧ Dp K H u k.d ∧ c.hs.length ≤ 30 ∧ ∀ H' r, Same H H' → DueAt K H' r (wideA c x k) → Q r H'
theorem ok_lwide (T : Tx K w mg) {k : Nat} : FnOk P w K mg base CX0 (k + 2) T.a__law_widened T.d__law_widened ["claim", "name", "mode"] (spLwide K) := by
  have G__law_row_of := ok_row_of (P := P) (base := base) T (k := k)
  refine T.F__law_widened.ok sc__law_widened (fun vs H Q E h => ?_) (fun cdv A outer s H vs Q E hr h => ?_)
  · obtain ⟨v, u, c, x, k, rfl, _⟩ := h
    rfl
  obtain ⟨v, u, c, x, kd, rfl, hv, hu, few, q⟩ := h
  refine ⟨_, (pss_cons (ps_set (i := 3) sc__law_widened.nd rfl (Or.inl rfl) (pe_call (G__law_row_of) hr (by rfl) T.g__law_row_of T.k__law_row_of T.b__law_row_of .nil pass0 (pa_cons (pv 0) (pa_cons (pv 1) pa_nil))))
    (pss_cons (ps_if (pt_cmpR op_isN (pv 3) pe_non (nomark _))
      (pss_one (ps_ret (pe_lstN (pa_cons pe_str (pa_cons (pv 1) pa_nil)))))
      pss_nil)
    (pss_cons (ps_set (i := 4) sc__law_widened.nd rfl (Or.inl rfl) (pe_ix ix_tup (pv 3) pe_int (fun _ _ => rfl)))
    (C8.pss_cut (ps_if (PW.pt (pw_and (pt_cmpR (op_neD hr.units) (pv 4) pe_str (nomark _)) (pw_and1 (PW.pt (pw_or (pt_cmpR (op_eqD hr.units) (pv 2) pe_str (nomark _)) (pw_or (pt_cmpR op_lt (pe_ix ix_tup (pv 2) pe_int (fun _ _ => rfl)) (pe_ix ix_tup (pv 4) pe_int (fun _ _ => rfl)) (nomark _)) (pw_or1 (pt_cmpR op_lt (pe_ix ix_tup (pv 2) pe_int (fun _ _ => rfl)) (pe_ix ix_tup (pv 4) pe_int (fun _ _ => rfl)) (nomark _)))))))))
      (pss_one (ps_ret (pe_lstN (pa_cons pe_str (pa_cons (pv 1) pa_nil)))))
      pss_nil)
    (pss_cons (ps_set (i := 5) sc__law_widened.nd rfl (Or.inl rfl) (pe_lstN pa_nil))
    (pss_cons (ps_for PassesOwn.never rfl (pi_tup (pe_ix ix_tup (pv 0) pe_int (fun _ _ => rfl))) (pg_name (i := 6) sc__law_widened.nd rfl (Or.inl rfl))
      (pss_cons (ps_if (pt_cmpR op_eq (pe_ix ix_tup (pv 6) pe_int (fun _ _ => rfl)) (pv 1) (nomark _))
        (pss_one (ps_set (i := 6) sc__law_widened.nd rfl (Or.inl rfl) (pe_tupN (pa_cons (pv 1) (pa_cons (pv 2) (pa_cons (pe_ix ix_tup (pv 6) pe_int (fun _ _ => rfl)) pa_nil))))))
        pss_nil)
      (pss_one (ps_expr (pe_bm PySem.F.plainAttrs_list PySem.F.slot_list_append PySem.F.type_list_append mt_append (pv 5) (pa_cons (pv 6) pa_nil))))))
    (pss_one (ps_ret (pe_tupN (pa_cons pe_str (pa_cons (pe_tupN (pa_cons (pe_callTy call_tupleN (by rfl) T.z_tuple (by decide +kernel) (pa_cons (pv 5) pa_nil)) (pa_cons (pe_ix ix_tup (pv 0) pe_int (fun _ _ => rfl)) pa_nil))) pa_nil))))))))))), ?_⟩
  refine ⟨_, rfl, _, rfl, v, c, x, rfl, hv, fun g r1 ex hr1 => ?_, fun ex => ?_⟩
  rotate_left
  · unfold wideA at q
    rw [ex] at q
    refine ⟨_, rfl, rfl, _, rfl, yv ?_⟩
    exact ⟨_, rfl, (by show 2 ≤ 1000; decide), fun H1 p s1 np hp => q H1 _ s1 ⟨p, rfl, SqL.of hp⟩⟩
  obtain ⟨p1, y1, z1, rfl, hp1, hy1, hz1⟩ := hold_at hr1
  have q' : ∀ H' r, Same H H' → DueAt K H' r (if kd.covers g.kd = true then .told (Clm.d ⟨c.hs.map (Hold.kind x kd), c.goal⟩) else .room x) → Q r H' := by
    unfold wideA at q
    rw [ex] at q
    exact q
  refine ⟨_, rfl, rfl, _, rfl, ?_⟩
  rw [decide_eq_false (show ¬ V.ref p1 = .non by intro z; cases z)]
  refine iteF ⟨_, rfl, p1, _, 1, y1, rfl, rfl, hp1, atI_at (j := 1) rfl rfl, ?_⟩
  obtain ⟨a, b, gg, xs, rfl, ha, hb, hx, hg⟩ := clm_at hv
  have lx := hx.len
  rw [List.length_map] at lx
  have no : kd.covers g.kd = false → tRet (tLstN (tCons (tC (.str "room")) (tCons (tVar 1) tNil))) { nx := fun x H' => Q V.non H', rt := Q } [some (.ref a), some (.str x), some u, some (.ref p1), some y1, none, none] H := fun e => by
    rw [if_neg (by rw [e]; decide)] at q'
    exact ⟨_, rfl, (by show 2 ≤ 1000; decide), fun H1 p s1 np hp => q' H1 _ s1 ⟨p, rfl, SqL.of hp⟩⟩
  refine ⟨fun σ' H' => σ' = [some (.ref a), some (.str x), some u, some (.ref p1), some y1, none, none] ∧ H' = H ∧ kd.covers g.kd = true, ?_, ?_⟩
  · refine ⟨_, rfl, g.kd.d, .str "once", hy1, .str _, shaped_kd _, shaped_once, _, rfl, ?_⟩
    rw [eqv_once]
    revert no
    generalize g.kd = gk at hy1 q' ⊢
    intro no
    rcases dp_kd hy1 with ⟨rfl, rfl⟩ | ⟨ka, n, d, rfl, rfl, hka⟩
    · refine iteB (fun z => ?_) (fun _ => ⟨rfl, rfl, by cases kd <;> rfl⟩)
      rw [decide_eq_true rfl] at z
      cases z
    refine iteB (fun _ => ?_) (fun z => ?_)
    rotate_left
    · rw [decide_eq_false (by intro z; cases z)] at z
      cases z
    refine ⟨_, rfl, kd.d, .str "once", hu, .str _, shaped_kd _, shaped_once, _, rfl, ?_⟩
    rw [eqv_once]
    rcases dp_kd hu with ⟨rfl, rfl⟩ | ⟨kb, m, e, rfl, rfl, hkb⟩
    · exact iteB (fun _ => no rfl) (fun z => absurd rfl (of_decide_eq_false z))
    refine iteB (fun z => absurd (of_decide_eq_true z) (by intro z; cases z)) fun _ => ?_
    refine ⟨_, rfl, kb, _, 0, .int m, rfl, rfl, hkb, atI_at (j := 0) rfl rfl, _, rfl, ka, _, 0, .int n, rfl, rfl, hka, atI_at (j := 0) rfl rfl, _, _, rfl, rfl, _, rfl, iteB (fun c1 => ?_) fun c1 => ?_⟩
    · have c1' : m < n := of_decide_eq_true c1
      refine no ?_
      show (decide (n ≤ m) && decide (d ≤ e)) = false
      rw [decide_eq_false (by omega)]; rfl
    have c1' : ¬ m < n := of_decide_eq_false c1
    refine ⟨_, rfl, kb, _, 1, .int e, rfl, rfl, hkb, atI_at (j := 1) rfl rfl, _, rfl, ka, _, 1, .int d, rfl, rfl, hka, atI_at (j := 1) rfl rfl, _, _, rfl, rfl, _, rfl, iteB (fun c2 => ?_) fun c2 => ?_⟩
    · have c2' : e < d := of_decide_eq_true c2
      refine no ?_
      show (decide (n ≤ m) && decide (d ≤ e)) = false
      rw [decide_eq_false (show ¬ d ≤ e by omega), Bool.and_false]
    have c2' : ¬ e < d := of_decide_eq_false c2
    refine ⟨rfl, rfl, ?_⟩
    show (decide (n ≤ m) && decide (d ≤ e)) = true
    rw [decide_eq_true (show n ≤ m by omega), decide_eq_true (show d ≤ e by omega)]; rfl
  rintro σ' H' ⟨rfl, eH, cov⟩
  have eH' := eH.symm
  subst eH'
  rw [if_pos cov] at q'
  refine ⟨Nat.zero_le _, fun H1 L s1 nL hL => ?_⟩
  refine ⟨_, rfl, a, _, 0, .ref b, rfl, rfl, s1.seqT ha, atI_at (j := 0) rfl rfl, b, rfl, ⟨_, s1.seqT hb⟩, ?_⟩
  refine for_tup (xs := xs) (fun i σ' H' => ∃ (y : Option V) (ws : List V), σ' = [some (.ref a), some (.str x), some u, some (.ref p1), some y1, some (.ref L), y] ∧ Kp [L] H1 H' ∧ H' L = some (.lst ws) ∧ DpAll K H' ws (((c.hs.take i).map (Hold.kind x kd)).map Hold.d))
    ⟨none, [], rfl, Kp.refl _, hL, .nil⟩ ?_ ?_ ?_
  · rintro i σ' H' _ ⟨_, _, _, k', _, _⟩
    exact k'.seqT (Lsts.one hL) (s1.seqT hb)
  · rintro i z σ' H' hi ⟨y, ws, rfl, k', hL', hw⟩
    obtain ⟨h, hh, hz⟩ := hold_get hx hi
    have hz' := Dp.kp k' (Lsts.one hL) _ _ h.tu (Dp.sm s1 _ _ hz)
    obtain ⟨p, yk, s, rfl, hp, hy, hs⟩ := hold_at hz'
    have et : (c.hs.take (i + 1)) = c.hs.take i ++ [h] := by rw [List.take_add_one, hh]; rfl
    have lw := hw.len
    rw [List.length_map, List.length_map, List.length_take] at lw
    refine ⟨_, rfl, p, _, 0, .str h.nm, rfl, rfl, hp, atI_at (j := 0) rfl rfl, _, rfl, rfl, _, rfl, iteB (fun c1 => ?_) (fun c1 => ?_)⟩
    · have eq : h.nm = x := V.str.inj (of_decide_eq_true c1)
      refine ⟨_, rfl, _, rfl, _, rfl, p, _, 2, s, rfl, rfl, hp, atI_at (j := 2) rfl rfl, (by show 3 ≤ 1000; decide), fun H2 r s2 nr hr2 => ?_⟩
      have hL2 := s2 _ _ hL'
      refine ⟨_, rfl, .inl ⟨rfl, _, SqL.of hL2⟩, _, rfl, L, ws, _, rfl, rfl, hL2, sz_lt (by omega), ?_⟩
      refine ⟨_, _, rfl, (k'.trans (Kp.of s2)).trans (Kp.wr (.head _)), upd_same, ?_⟩
      rw [et, List.map_append, List.map_append]
      refine grown hL2 (Dp.smAll s2 _ _ hw) ?_ (holds_tu _) (Hold.tu _)
      unfold Hold.kind
      rw [if_pos eq]
      have hk' := Dp.sm s2 _ _ (Dp.kp k' (Lsts.one hL) _ _ (Kd.tu kd) (Dp.sm s1 _ _ hu))
      exact .tup (SqT.of hr2) (.cons (.str _) (.cons hk' (.cons (Dp.sm s2 _ _ hs) .nil)))
    · have ne : ¬ h.nm = x := fun z => of_decide_eq_false c1 (by rw [z])
      refine ⟨_, rfl, .inl ⟨rfl, _, SqL.of hL'⟩, _, rfl, L, ws, _, rfl, rfl, hL', sz_lt (by omega), ?_⟩
      refine ⟨_, _, rfl, k'.trans (Kp.wr (.head _)), upd_same, ?_⟩
      rw [et, List.map_append, List.map_append]
      refine grown hL' hw ?_ (holds_tu _) (Hold.tu _)
      unfold Hold.kind
      rw [if_neg ne]
      exact hz'
  · rintro σ' H' ⟨y, ws, rfl, k', hL', hw⟩
    rw [lx, List.take_length] at hw
    refine ⟨_, rfl, L, ws, rfl, .inl (SqL.of hL'), fun H3 t s3 ht => ?_⟩
    have ha' := s3.seqT (k'.seqT (Lsts.one hL) (s1.seqT ha))
    refine ⟨_, rfl, a, _, 1, gg, rfl, rfl, ha', atI_at (j := 1) rfl rfl, (by show 2 ≤ 1000; decide), fun H4 r s4 nr hr4 => ⟨(by show 2 ≤ 1000; decide), fun H5 r5 s5 n5 h5 => ?_⟩⟩
    refine q' H5 _ ((((Same.kp s1 k' nL).trans s3).trans s4).trans s5) ⟨r5, .ref r, rfl, SqT.of h5, clm_mk (s5.seqT (SqT.of hr4)) ((s4.trans s5).seqT ht) (Dp.smAll ((s3.trans s4).trans s5) _ _ hw) ?_⟩
    exact Dp.sm ((s3.trans s4).trans s5) _ _ (Dp.kp k' (Lsts.one hL) _ _ (Sn.tu _) (Dp.sm s1 _ _ hg))
/-- an answer that is told -/
def TriedAt (K : PySem.W.Frag) (H : Hp) (r : V) : Ans → Prop
  | .told d => ∃ p w, r = .ref p ∧ SqT K H p [.str "told", w] ∧ Dp K H w d
  | .unknown z => ∃ p, r = .ref p ∧ SqL K H p [.str "unknown", .str z, .bl true]
  | .room z => ∃ p, r = .ref p ∧ SqL K H p [.str "room", .str z, .bl true]
theorem TriedAt.sm {H H' : Hp} {r : V} {a : Ans} (s : Same H H') (h : TriedAt K H r a) : TriedAt K H' r a := by
  cases a with
  | told d => obtain ⟨p, w, e, h1, h2⟩ := h; exact ⟨p, w, e, s.seqT h1, Dp.sm s _ _ h2⟩
  | unknown z => obtain ⟨p, e, h1⟩ := h; exact ⟨p, e, s.seq h1⟩
  | room z => obtain ⟨p, e, h1⟩ := h; exact ⟨p, e, s.seq h1⟩
def Ans.small : Ans → Prop
  | .told d => pl d = true ∧ d.depth < 90
  | _ => True
theorem kit_tl {K : PySem.W.Frag} : PySem.W.kitOne K (.type "tuple") (.type "list") = some false := kit_ty (by decide +kernel)
def spAgrees (K : PySem.W.Frag) : Sp := fun vs H Q _ => ∃ (v u : V) (a : Ans), vs = [v, u] ∧ TriedAt K H v a ∧ DueAt K H u a ∧ a.small ∧ ∀ H', Same H H' → Q (.bl true) H'
theorem ok_agrees (T : Tx K w mg) {k : Nat} : FnOk P w K mg base CX0 (k + 92) T.a__law_agrees T.d__law_agrees ["told", "due"] (spAgrees K) := by
  have G__law_same := ok_same (P := P) (base := base) T (k + 90)
  refine T.F__law_agrees.ok sc__law_agrees (fun vs H Q E h => ?_) (fun cdv A outer s H vs Q E hr h => ?_)
  · obtain ⟨v, u, a, rfl, _⟩ := h
    rfl
  obtain ⟨v, u, a, rfl, hv, hu, sm, q⟩ := h
  refine ⟨_, (pss_cons (ps_if (pt_val (pe_callB call_isi (by rfl) T.z_isinstance (by decide +kernel) (pa_cons (pv 1) (pa_cons (pe_bltn (v := .ty "list") (by rfl) T.z_list (by decide +kernel) rfl) pa_nil))))
      (pss_one (ps_ret (pe_and (pe_callB call_isi (by rfl) T.z_isinstance (by decide +kernel) (pa_cons (pv 0) (pa_cons (pe_bltn (v := .ty "list") (by rfl) T.z_list (by decide +kernel) rfl) pa_nil))) (pe_and (pe_cmpR op_eq (pe_ix ix_list (pv 0) pe_int (fun _ _ => rfl)) (pe_ix ix_list (pv 1) pe_int (fun _ _ => rfl)) (nomark _)) (pe_and (pe_call (G__law_same) hr (by rfl) T.g__law_same T.k__law_same T.b__law_same .nil pass0 (pa_cons (pe_ix ix_list (pv 0) pe_int (fun _ _ => rfl)) (pa_cons (pe_ix ix_list (pv 1) pe_int (fun _ _ => rfl)) pa_nil))) (pe_one (pe_ix ix_list (pv 0) pe_int (fun _ _ => rfl))))))))
      pss_nil)
    (pss_one (ps_ret (pe_and (pe_callB call_isi (by rfl) T.z_isinstance (by decide +kernel) (pa_cons (pv 0) (pa_cons (pe_bltn (v := .ty "tuple") (by rfl) T.z_tuple (by decide +kernel) rfl) pa_nil))) (pe_one (pe_call (G__law_same) hr (by rfl) T.g__law_same T.k__law_same T.b__law_same .nil pass0 (pa_cons (pe_ix ix_tup (pv 0) pe_int (fun _ _ => rfl)) (pa_cons (pe_ix ix_tup (pv 1) pe_int (fun _ _ => rfl)) pa_nil)))))))), ?_⟩
  have key : (∃ (d : PyData) (p p' : Addr) (x x' : V), v = .ref p ∧ u = .ref p' ∧ SqT K H p [.str "told", x] ∧ Dp K H x d ∧ SqT K H p' [.str "told", x'] ∧ Dp K H x' d ∧ pl d = true ∧ d.depth < 90) ∨
      ∃ (tag z : Str) (p p' : Addr), v = .ref p ∧ u = .ref p' ∧ SqL K H p [.str tag, .str z, .bl true] ∧ SqL K H p' [.str tag, .str z] := by
    cases a with
    | told d =>
      obtain ⟨p, x, e1, h1, h2⟩ := hv
      obtain ⟨p', x', e2, h3, h4⟩ := hu
      exact .inl ⟨d, p, p', x, x', e1, e2, h1, h2, h3, h4, sm.1, sm.2⟩
    | unknown z =>
      obtain ⟨p, e1, h1⟩ := hv
      obtain ⟨p', e2, h2⟩ := hu
      exact .inr ⟨_, z, p, p', e1, e2, h1, h2⟩
    | room z =>
      obtain ⟨p, e1, h1⟩ := hv
      obtain ⟨p', e2, h2⟩ := hu
      exact .inr ⟨_, z, p, p', e1, e2, h1, h2⟩
  rcases key with ⟨d, p, p', x, x', rfl, rfl, h1, h2, h3, h4, sp, sd⟩ | ⟨tag, z, p, p', rfl, rfl, h1, h2⟩
  · refine ⟨_, rfl, _, _, _, _, _, rfl, .ty _, ty_tup h3, kit_tl, _, rfl, iteF ?_⟩
    refine ⟨_, rfl, _, _, _, _, _, rfl, .ty _, ty_tup h1, kit_tt, _, rfl, iteT ?_⟩
    exact ⟨_, rfl, p, _, 1, x, rfl, rfl, h1, atI_at (j := 1) rfl rfl, _, rfl, p', _, 1, x', rfl, rfl, h3, atI_at (j := 1) rfl rfl, x, x', d, rfl, h2, h4, sp, by omega, q⟩
  · refine ⟨_, rfl, _, _, _, _, _, rfl, .ty _, ty_lst h2, kit_ll, _, rfl, iteT ?_⟩
    refine ⟨_, rfl, _, _, _, _, _, rfl, .ty _, ty_lst h1, kit_ll, _, rfl, iteT ?_⟩
    refine ⟨_, rfl, p, _, 0, .str tag, rfl, rfl, h1, atI_at (j := 0) rfl rfl, _, rfl, p', _, 0, .str tag, rfl, rfl, h2, atI_at (j := 0) rfl rfl, rfl, _, rfl, yv ?_⟩
    refine ⟨_, rfl, p, _, 1, .str z, rfl, rfl, h1, atI_at (j := 1) rfl rfl, _, rfl, p', _, 1, .str z, rfl, rfl, h2, atI_at (j := 1) rfl rfl, .str z, .str z, .str z, rfl, .str _, .str _, rfl, (by simp only [PyData.depth]; omega), fun H1 s1 => ⟨_, rfl, iteT ?_⟩⟩
    exact ⟨_, rfl, p, _, 2, .bl true, rfl, rfl, s1.seq h1, atI_at (j := 2) rfl rfl, q H1 s1⟩
end
end HA

/-! What is tried. -/
namespace HA
open PySem PySem.Spec PyProof.Rows L2 HX
/-- isinstance(e, c), e the error that the suite holds -/
def rIsErrG (K : PySem.W.Frag) (D a : Addr) (cls : Value) (d : Option Addr) : List V → Hp → VK → Prop := fun xs H Q => ∃ dd, cls = .ref D ∧ d = some dd ∧ rIsErr K D a dd xs H Q
theorem call_isErrG {X : Cx} {a D : Addr} {oe : Obj} {cls : Value} {d : Option Addr} {pn : List (Addr × Obj)} (C : ExcC X.K D) (hz : Zc cls d oe) (hf : ∃ vs, oe.data = .fields vs) : CallR (X.suite a ((a, oe) :: pn)) (.builtin "isinstance") (rIsErrG X.K D a cls d) := by
  rintro pins s σ H xs us Q I r ⟨dd, rfl, rfl, h⟩
  exact call_isErr C hz hf pins s σ H xs us Q I r h
section
variable {P : Program} {w : World} {K : PySem.W.Frag} {mg : Str → Option Value} {base : Heap}
def spTried (K : PySem.W.Frag) (n : Nat) : Sp := fun vs H Q _ => ∃ (v u : V) (c : Clm) (x : Str) (a : Ans), Dp K H v c.d ∧ c.ok ∧ (∀ H' r, Same H H' → TriedAt K H' r a → Q r H') ∧
  ((∃ (t : Row) (y : Str), vs = [.int 0, v, u, .str x, .str y] ∧ Dp K H u t.d ∧ t.ht ≤ n ∧ a = poolA c t x y) ∨
   (∃ (t : Row) (z : V), vs = [.int 1, v, u, .str x, z] ∧ Dp K H u t.d ∧ t.ht ≤ n ∧ a = liftA c t x) ∨
   (∃ (z : V) (k : Kd), vs = [.int 2, v, u, .str x, z] ∧ Dp K H z k.d ∧ a = wideA c x k))
theorem ok_tried (T : Tx K w mg) {k : Nat} : FnOk P w K mg base CX0 (k + 7) T.a__law_tried T.d__law_tried ["form", "claim", "tree", "one", "two"] (spTried K (k + 4)) := by
  have G_pooled_holds := ok_pooled_holds (P := P) (base := base) T (k := k)
  have G_abstracted := ok_abstracted (P := P) (base := base) T (k := k)
  have G_with_room := ok_with_room (P := P) (base := base) T (k := k + 2)
  refine T.F__law_tried.ok sc__law_tried (fun vs H Q E h => ?_) (fun cdv A outer s H vs Q E hr h => ?_)
  · obtain ⟨v, u, c, x, a, _, _, _, ⟨t, y, rfl, _⟩ | ⟨t, z, rfl, _⟩ | ⟨z, k, rfl, _⟩⟩ := h <;> rfl
  obtain ⟨v, u, c, x, a, hv, ok, q, h⟩ := h
  have takes0 : Takes (cxOf CX0 P w K mg base N__law_tried "_law_tried" (defScope s__law_tried) T.a__law_tried cdv A outer s H E).nox (fun _ _ _ _ => False) := fun _ _ ⟨_, _, _, _, _, _, _, _, _, _, _, _, _, _, _, _, w⟩ => w.elim
  refine ⟨_, (pss_cons (ps_tryX (w := wAsX K (.ref T.c_UnknownName) 6 (fun _ _ _ => _) (wAsX K (.ref T.c_NoRoom) 6 (fun _ _ _ => _) (fun _ => fun _ _ _ _ => False))) rfl rfl
      (fun W pn xe tk ow => pss_one (ps_if (pt_cmpR op_eq (pv 0) pe_int (nomark _))
          (pss_one (ps_set (i := 5) sc__law_tried.nd rfl (Or.inl rfl) (pe_callS (G_pooled_holds) hr (by rfl) T.g_pooled_holds T.k_pooled_holds T.b_pooled_holds (fun σ => passAt tk σ) (pa_cons (pv 1) (pa_cons (pv 2) (pa_cons (pv 3) (pa_cons (pv 4) pa_nil)))))))
          (pss_one (ps_if (pt_cmpR op_eq (pv 0) pe_int (nomark _))
            (pss_one (ps_set (i := 5) sc__law_tried.nd rfl (Or.inl rfl) (pe_callS (G_abstracted) hr (by rfl) T.g_abstracted T.k_abstracted T.b_abstracted (fun σ => passAt tk σ) (pa_cons (pv 1) (pa_cons (pv 2) (pa_cons (pv 3) pa_nil))))))
            (pss_one (ps_set (i := 5) sc__law_tried.nd rfl (Or.inl rfl) (pe_callS (G_with_room) hr (by rfl) T.g_with_room T.k_with_room T.b_with_room (fun σ => passAt tk σ) (pa_cons (pv 1) (pa_cons (pv 3) (pa_cons (pv 4) pa_nil))))))))))
      (handle_as rfl sc__law_tried.nd rfl rfl ⟨by rfl, by decide, .inl T.gc_UnknownName⟩
        (fun a oe cls d pn hz hf => pss_one (ps_ret (pe_lstN (pa_cons pe_str (pa_cons (pe_xf T.x_UnknownName T.n_UnknownName hz hf (pv 6))
          (pa_cons (pe_and (pe_callB (call_isErrG T.e_UnknownName hz hf) (by rfl) T.z_isinstance (by decide +kernel) (pa_cons (pv 6) (pa_cons (pe_glob (v := .ref T.c_HeldError) (by rfl) T.gc_HeldError rfl) pa_nil)))
          (pe_and (pe_callB (call_isErrG T.e_UnknownName hz hf) (by rfl) T.z_isinstance (by decide +kernel) (pa_cons (pv 6) (pa_cons (pe_bltn (v := .ty "ValueError") (by rfl) T.z_ValueError (by decide +kernel) rfl) pa_nil)))
          (pe_one (pe_not (pe_callB (call_isErrG T.e_UnknownName hz hf) (by rfl) T.z_isinstance (by decide +kernel) (pa_cons (pv 6) (pa_cons (pe_glob (v := .ref T.c_NoRoom) (by rfl) T.gc_NoRoom rfl) pa_nil))))))) pa_nil))))))
      (handle_as rfl sc__law_tried.nd rfl rfl ⟨by rfl, by decide, .inl T.gc_NoRoom⟩
        (fun a oe cls d pn hz hf => pss_one (ps_ret (pe_lstN (pa_cons pe_str (pa_cons (pe_xf T.x_NoRoom T.n_NoRoom hz hf (pv 6))
          (pa_cons (pe_and (pe_callB (call_isErrG T.e_NoRoom hz hf) (by rfl) T.z_isinstance (by decide +kernel) (pa_cons (pv 6) (pa_cons (pe_glob (v := .ref T.c_HeldError) (by rfl) T.gc_HeldError rfl) pa_nil)))
          (pe_and (pe_callB (call_isErrG T.e_NoRoom hz hf) (by rfl) T.z_isinstance (by decide +kernel) (pa_cons (pv 6) (pa_cons (pe_bltn (v := .ty "ValueError") (by rfl) T.z_ValueError (by decide +kernel) rfl) pa_nil)))
          (pe_one (pe_not (pe_callB (call_isErrG T.e_NoRoom hz hf) (by rfl) T.z_isinstance (by decide +kernel) (pa_cons (pv 6) (pa_cons (pe_glob (v := .ref T.c_UnknownName) (by rfl) T.gc_UnknownName rfl) pa_nil))))))) pa_nil))))))
        (handle_nil rfl rfl takes0))))
      (pss_one (ps_ret (pe_tupN (pa_cons pe_str (pa_cons (pv 5) pa_nil)))))), ?_⟩
  have errU : ∀ (σ : L2.St) (b dd : Addr) (z : Str) (H' : Hp), σ[6]? = some (some (V.ref b)) → H' dd = some (.xd [("name", .str z)]) → (∀ H2 p, SqL K H2 p [.str "unknown", .str z, .bl true] → Same H' H2 → Q (.ref p) H2) →
      (tLstN (tCons (tC (.str "unknown")) (tCons (tXf b (.ref T.c_UnknownName) (some dd) T.c_UnknownName "name" (tVar 6)) (tCons (tAndV (tCB (rIsErrG K T.c_UnknownName b (.ref T.c_UnknownName) (some dd)) (tCons (tVar 6) (tCons (tC (.ref T.c_HeldError)) tNil)))
        (tAndV (tCB (rIsErrG K T.c_UnknownName b (.ref T.c_UnknownName) (some dd)) (tCons (tVar 6) (tCons (tC (.ty "ValueError")) tNil))) (tNotV (tCB (rIsErrG K T.c_UnknownName b (.ref T.c_UnknownName) (some dd)) (tCons (tVar 6) (tCons (tC (.ref T.c_NoRoom)) tNil)))))) tNil)))) σ H' Q := by
    intro σ b dd z H' hσ hdd q
    refine ⟨_, hσ, rfl, rfl, dd, _, .str z, rfl, hdd, rfl, ?_⟩
    refine ⟨_, hσ, dd, rfl, rfl, _, .ref T.c_HeldError, true, _, rfl, fun u h => h, hdd, T.kb_UnknownName, _, rfl, iteT ?_⟩
    refine ⟨_, hσ, dd, rfl, rfl, _, .type "ValueError", true, _, rfl, fun u h => h, hdd, T.kv_UnknownName, _, rfl, iteT ?_⟩
    refine ⟨_, hσ, dd, rfl, rfl, _, .ref T.c_NoRoom, false, _, rfl, fun u h => h, hdd, T.ko_UnknownName, _, rfl, ?_⟩
    exact ⟨(by show 3 ≤ 1000; decide), fun H2 p s2 n2 h2 => q H2 p (SqL.of h2) s2⟩
  have errN : ∀ (σ : L2.St) (b dd : Addr) (z : Str) (H' : Hp), σ[6]? = some (some (V.ref b)) → H' dd = some (.xd [("name", .str z)]) → (∀ H2 p, SqL K H2 p [.str "room", .str z, .bl true] → Same H' H2 → Q (.ref p) H2) →
      (tLstN (tCons (tC (.str "room")) (tCons (tXf b (.ref T.c_NoRoom) (some dd) T.c_NoRoom "name" (tVar 6)) (tCons (tAndV (tCB (rIsErrG K T.c_NoRoom b (.ref T.c_NoRoom) (some dd)) (tCons (tVar 6) (tCons (tC (.ref T.c_HeldError)) tNil)))
        (tAndV (tCB (rIsErrG K T.c_NoRoom b (.ref T.c_NoRoom) (some dd)) (tCons (tVar 6) (tCons (tC (.ty "ValueError")) tNil))) (tNotV (tCB (rIsErrG K T.c_NoRoom b (.ref T.c_NoRoom) (some dd)) (tCons (tVar 6) (tCons (tC (.ref T.c_UnknownName)) tNil)))))) tNil)))) σ H' Q := by
    intro σ b dd z H' hσ hdd q
    refine ⟨_, hσ, rfl, rfl, dd, _, .str z, rfl, hdd, rfl, ?_⟩
    refine ⟨_, hσ, dd, rfl, rfl, _, .ref T.c_HeldError, true, _, rfl, fun u h => h, hdd, T.kb_NoRoom, _, rfl, iteT ?_⟩
    refine ⟨_, hσ, dd, rfl, rfl, _, .type "ValueError", true, _, rfl, fun u h => h, hdd, T.kv_NoRoom, _, rfl, iteT ?_⟩
    refine ⟨_, hσ, dd, rfl, rfl, _, .ref T.c_UnknownName, false, _, rfl, fun u h => h, hdd, T.ko_NoRoom, _, rfl, ?_⟩
    exact ⟨(by show 3 ≤ 1000; decide), fun H2 p s2 n2 h2 => q H2 p (SqL.of h2) s2⟩
  rcases h with ⟨t, y, rfl, hu, ht, ea⟩ | ⟨t, z2, rfl, hu, ht, ea⟩ | ⟨z2, kd, rfl, hk, ea⟩
  · refine ⟨_, rfl, rfl, _, rfl, yv ?_⟩
    refine ⟨_, rfl, _, rfl, _, rfl, _, rfl, v, u, c, t, x, y, rfl, hv, hu, ht, ok, ?_⟩
    rw [← ea]
    cases a with
    | told d => exact fun H1 r1 s1 h1 => ⟨_, rfl, (by show 2 ≤ 1000; decide), fun H2 r s2 n2 h2 => q H2 _ (s1.trans s2) ⟨r, r1, rfl, SqT.of h2, Dp.sm s2 _ _ h1⟩⟩
    | unknown z => exact fun H1 dd s1 n1 h1 => ⟨true, T.mm_UnknownName, fun _ b nb => errU _ b dd z H1 rfl h1 (fun H2 p t s => q H2 _ (s1.trans s) ⟨p, rfl, t⟩), fun z => (by cases z)⟩
    | room z => exact fun H1 dd s1 n1 h1 => ⟨false, T.mo_NoRoom, fun z => (by cases z), fun _ => ⟨true, T.mm_NoRoom, fun _ b nb => errN _ b dd z H1 rfl h1 (fun H2 p t s => q H2 _ (s1.trans s) ⟨p, rfl, t⟩), fun z => (by cases z)⟩⟩
  · refine ⟨_, rfl, rfl, _, rfl, iteB (fun e => absurd (V.int.inj (of_decide_eq_true e)) (by decide)) (fun _ => ?_)⟩
    refine ⟨_, rfl, rfl, _, rfl, yv ?_⟩
    refine ⟨_, rfl, _, rfl, _, rfl, v, u, c, t, x, rfl, hv, hu, ht, ok, ?_⟩
    rw [← ea]
    cases a with
    | told d => exact fun H1 r1 s1 h1 => ⟨_, rfl, (by show 2 ≤ 1000; decide), fun H2 r s2 n2 h2 => q H2 _ (s1.trans s2) ⟨r, r1, rfl, SqT.of h2, Dp.sm s2 _ _ h1⟩⟩
    | unknown z => exact fun H1 dd s1 n1 h1 => ⟨true, T.mm_UnknownName, fun _ b nb => errU _ b dd z H1 rfl h1 (fun H2 p t s => q H2 _ (s1.trans s) ⟨p, rfl, t⟩), fun z => (by cases z)⟩
    | room z => exact fun H1 dd s1 n1 h1 => ⟨false, T.mo_NoRoom, fun z => (by cases z), fun _ => ⟨true, T.mm_NoRoom, fun _ b nb => errN _ b dd z H1 rfl h1 (fun H2 p t s => q H2 _ (s1.trans s) ⟨p, rfl, t⟩), fun z => (by cases z)⟩⟩
  · refine ⟨_, rfl, rfl, _, rfl, iteB (fun e => absurd (V.int.inj (of_decide_eq_true e)) (by decide)) (fun _ => ?_)⟩
    refine ⟨_, rfl, rfl, _, rfl, iteB (fun e => absurd (V.int.inj (of_decide_eq_true e)) (by decide)) (fun _ => ?_)⟩
    refine ⟨_, rfl, _, rfl, _, rfl, v, z2, c, x, kd, rfl, hv, hk, ok.few, ?_⟩
    rw [← ea]
    cases a with
    | told d => exact fun H1 r1 s1 h1 => ⟨_, rfl, (by show 2 ≤ 1000; decide), fun H2 r s2 n2 h2 => q H2 _ (s1.trans s2) ⟨r, r1, rfl, SqT.of h2, Dp.sm s2 _ _ h1⟩⟩
    | unknown z => exact fun H1 dd s1 n1 h1 => ⟨true, T.mm_UnknownName, fun _ b nb => errU _ b dd z H1 rfl h1 (fun H2 p t s => q H2 _ (s1.trans s) ⟨p, rfl, t⟩), fun z => (by cases z)⟩
    | room z => exact fun H1 dd s1 n1 h1 => ⟨false, T.mo_NoRoom, fun z => (by cases z), fun _ => ⟨true, T.mm_NoRoom, fun _ b nb => errN _ b dd z H1 rfl h1 (fun H2 p t s => q H2 _ (s1.trans s) ⟨p, rfl, t⟩), fun z => (by cases z)⟩⟩
end
end HA

/-! The boxes around the names. -/
namespace HA
open PySem PySem.Spec PyProof.Rows L2 HX
def Row.kk : Row → Option Kd
  | .pay _ k _ _ => some k
  | .cut k _ _ _ => some k
  | _ => none
def kidBs (t : Row) (bs : List Kd) (j : Nat) : List Kd := if j = 0 then bs ++ t.kk.toList else bs
def ownB (t : Row) (bs : List Kd) (x : Str) : List (List Kd) := if t.ref = some (.inr x) then [bs] else []
def occAt (x : Str) (t : Row) (bs : List Kd) (j : Nat) : List (List Kd) := match t.kids[j]? with
  | some c => (occ x c).map (kidBs t bs j ++ ·)
  | none => []
def occUp (x : Str) (t : Row) (bs : List Kd) : Nat → List (List Kd)
  | 0 => []
  | j + 1 => occUp x t bs j ++ occAt x t bs j
theorem map_pre (bs cs : List Kd) (l : List (List Kd)) : (l.map (cs ++ ·)).map (bs ++ ·) = l.map ((bs ++ cs) ++ ·) := by
  rw [List.map_map]
  exact List.map_congr_left fun y _ => (List.append_assoc _ _ _).symm
theorem occ_eq (x : Str) (t : Row) (bs : List Kd) : (occ x t).map (bs ++ ·) = ownB t bs x ++ occUp x t bs t.kids.length := by
  have one : ∀ r : Key, List.map (bs ++ ·) (if r = .inr x then [[]] else ([] : List (List Kd))) = if some r = some (.inr x) then [bs] else [] := fun r => by
    by_cases e : r = .inr x
    · rw [if_pos e, if_pos (by rw [e]), List.map_cons, List.append_nil]; rfl
    · rw [if_neg e, if_neg fun z => e (Option.some.inj z)]; rfl
  have pre : ∀ (k : Kd) (l : List (List Kd)), List.map (bs ++ ·) (l.map (k :: ·)) = l.map ((bs ++ [k]) ++ ·) := fun k l => map_pre bs [k] l
  have nop : ∀ l : List (List Kd), l.map ((bs ++ []) ++ ·) = l.map (bs ++ ·) := fun l => by rw [List.append_nil]
  cases t with
  | own r => show List.map (bs ++ ·) (if r = .inr x then [[]] else []) = _; rw [one]; exact (List.append_nil _).symm
  | cite y => rfl
  | take b => show _ = [] ++ ([] ++ (occ x b).map ((bs ++ []) ++ ·)); rw [nop]; rfl
  | make y i b => show _ = [] ++ ([] ++ (occ x b).map ((bs ++ []) ++ ·)); rw [nop]; rfl
  | pick r s b => show List.map (bs ++ ·) ((if r = .inr x then [[]] else []) ++ occ x b) = (if some r = some (.inr x) then [bs] else []) ++ ([] ++ (occ x b).map ((bs ++ []) ++ ·)); rw [nop, List.map_append, one]; rfl
  | opn r y i b => show List.map (bs ++ ·) ((if r = .inr x then [[]] else []) ++ occ x b) = (if some r = some (.inr x) then [bs] else []) ++ ([] ++ (occ x b).map ((bs ++ []) ++ ·)); rw [nop, List.map_append, one]; rfl
  | offer a b => show List.map (bs ++ ·) (occ x a ++ occ x b) = [] ++ (([] ++ (occ x a).map ((bs ++ []) ++ ·)) ++ (occ x b).map (bs ++ ·)); rw [nop, List.map_append]; rfl
  | pay r k a b => show List.map (bs ++ ·) ((if r = .inr x then [[]] else []) ++ ((occ x a).map (k :: ·) ++ occ x b)) = (if some r = some (.inr x) then [bs] else []) ++ (([] ++ (occ x a).map ((bs ++ [k]) ++ ·)) ++ (occ x b).map (bs ++ ·)); rw [List.map_append, one, List.map_append, pre]; rfl
  | cut k s a b => show List.map (bs ++ ·) ((occ x a).map (k :: ·) ++ occ x b) = [] ++ (([] ++ (occ x a).map ((bs ++ [k]) ++ ·)) ++ (occ x b).map (bs ++ ·)); rw [List.map_append, pre]; rfl
/-- a list of kinds -/
def BoxAt (K : PySem.W.Frag) (H : Hp) (b : Addr) (bs : List Kd) : Prop := ∃ ws, H b = some (.lst ws) ∧ DpAll K H ws (bs.map Kd.d)
def EnAt (K : PySem.W.Frag) (H : Hp) (F : Addr) (Ls : List Addr) (v : V) (l : List (List Kd)) : Prop := ∃ L ws, v = .ref L ∧ L ∈ Ls ∧ H L = some (.lst ws) ∧ ws.length = l.length ∧ l ≠ [] ∧
  ∀ (i : Nat) (w : V) (bs : List Kd), ws[i]? = some w → l[i]? = some bs → ∃ b, w = .ref b ∧ b ∉ F :: Ls ∧ BoxAt K H b bs
structure BX (K : PySem.W.Frag) (H : Hp) (F : Addr) (Ls : List Addr) (f : Str → List (List Kd)) (m : Nat) : Prop where
  dict : ∃ kvs, H F = some (.dK kvs) ∧ (kvs.map (·.1)).Nodup ∧ kvs.length ≤ m ∧ (∀ k v, valV kvs k = some v → ∃ x, k = .inr x ∧ EnAt K H F Ls v (f x)) ∧ (∀ x, valV kvs (.inr x) = none → f x = []) ∧ ∀ x y v, valV kvs (.inr x) = some v → valV kvs (.inr y) = some v → x = y
  ls : ∀ L ∈ Ls, ∃ ws, H L = some (.lst ws)
  len : ∀ x, (f x).length ≤ m
theorem kinds_tu (l : List Kd) : tuAll (l.map Kd.d) = true := by
  induction l with
  | nil => rfl
  | cons k l ih =>
    show (tu k.d && tuAll (l.map Kd.d)) = true
    rw [tu_kd, ih]; rfl
section
variable {K : PySem.W.Frag} {H H' H1 H2 : Hp} {F b : Addr} {Ls Ls' Ls1 S : List Addr} {f g : Str → List (List Kd)} {m m' : Nat} {v : V} {l : List (List Kd)} {bs : List Kd}
theorem BoxAt.kp (k : Kp S H H') (nt : NT S H) (n : b ∉ S) (h : BoxAt K H b bs) : BoxAt K H' b bs := by
  obtain ⟨ws, e, hx⟩ := h
  exact ⟨ws, k _ _ n e, dpNAll k nt _ _ (kinds_tu _) hx⟩
theorem BoxAt.ex (h : BoxAt K H b bs) : ∃ o, H b = some o := by
  obtain ⟨ws, e, _⟩ := h
  exact ⟨_, e⟩
theorem BoxAt.sm (s : Same H H') (h : BoxAt K H b bs) : BoxAt K H' b bs := by
  obtain ⟨ws, e, hx⟩ := h
  exact ⟨ws, s _ _ e, Dp.smAll s _ _ hx⟩
theorem EnAt.go (k : Kp S H H') (nt : NT S H) (sub : ∀ b, b ∉ F :: Ls → (∃ o, H b = some o) → b ∉ S ∧ b ∉ F :: Ls') (hl : ∀ L, v = .ref L → L ∉ S) (ll : ∀ L ∈ Ls, L ∈ Ls') (h : EnAt K H F Ls v l) : EnAt K H' F Ls' v l := by
  obtain ⟨L, ws, e, mL, hL, e2, ne, all⟩ := h
  refine ⟨L, ws, e, ll L mL, k _ _ (hl L e) hL, e2, ne, fun i w bs h1 h2 => ?_⟩
  obtain ⟨b, e3, nb, hb⟩ := all i w bs h1 h2
  obtain ⟨n1, n2⟩ := sub b nb hb.ex
  exact ⟨b, e3, n2, hb.kp k nt n1⟩
theorem BX.nt (h : BX K H F Ls f m) : NT (F :: Ls) H := fun x mx o e => by
  rcases List.mem_cons.mp mx with rfl | mx
  · obtain ⟨kvs, hF, _⟩ := h.dict
    exact NT.dict hF _ (.head _) o e
  · obtain ⟨ws, hL⟩ := h.ls x mx
    rw [hL] at e
    cases e
    exact ⟨fun xs z => (by cases z), fun ob xs z => (by cases z)⟩
theorem BX.sm (s : Same H H') (h : BX K H F Ls f m) : BX K H' F Ls f m := by
  obtain ⟨⟨kvs, hF, nd, lk, h1, h2, h3⟩, hl, hn⟩ := h
  refine ⟨⟨kvs, s _ _ hF, nd, lk, fun k v e => ?_, h2, h3⟩, fun L mL => ?_, hn⟩
  · obtain ⟨x, ex, en⟩ := h1 k v e
    exact ⟨x, ex, en.go (S := []) (Kp.of s) (fun b m => by cases m) (fun b nb _ => ⟨(by intro m; cases m), nb⟩) (fun L _ m => by cases m) fun L mL => mL⟩
  · obtain ⟨ws, e⟩ := hl L mL
    exact ⟨ws, s _ _ e⟩
theorem BX.mono (h : BX K H F Ls f m) (l : m ≤ m') : BX K H F Ls f m' := by
  obtain ⟨⟨kvs, hF, nd, lk, r⟩, hl, hn⟩ := h
  exact ⟨⟨kvs, hF, nd, by omega, r⟩, hl, fun x => Nat.le_trans (hn x) l⟩
theorem Kp.chain (k1 : Kp (F :: Ls) H H1) (fr : ∀ L ∈ Ls1, L ∈ Ls ∨ H L = none) (k2 : Kp (F :: Ls1) H1 H2) : Kp (F :: Ls) H H2 := fun b o n e => k2 b o (fun m => by
  rcases List.mem_cons.mp m with rfl | m
  · exact n (.head _)
  · rcases fr b m with h | h
    · exact n (.tail _ h)
    · rw [h] at e; cases e) (k1 b o n e)
theorem fr_chain (k1 : Kp (F :: Ls) H H1) (hF : ∃ o, H1 F = some o) (fr : ∀ L ∈ Ls1, L ∈ Ls ∨ H L = none) {Ls2 : List Addr} (fr2 : ∀ L ∈ Ls2, L ∈ Ls1 ∨ H1 L = none) : ∀ L ∈ Ls2, L ∈ Ls ∨ H L = none := fun L m => by
  rcases fr2 L m with h | h
  · exact fr L h
  · by_cases c : L ∈ F :: Ls
    · rcases List.mem_cons.mp c with rfl | c
      · obtain ⟨o, e⟩ := hF
        rw [e] at h; cases h
      · exact .inl c
    · refine .inr ?_
      cases e : H L with
      | none => rfl
      | some o => rw [k1 L o c e] at h; cases h
theorem keep_out (fr : ∀ L ∈ Ls1, L ∈ Ls ∨ H L = none) {p : Addr} {o : HO} (n : p ∉ F :: Ls) (e : H p = some o) : p ∉ F :: Ls1 := fun m => by
  rcases List.mem_cons.mp m with rfl | m
  · exact n (.head _)
  · rcases fr p m with h | h
    · exact n (.tail _ h)
    · rw [h] at e; cases e
end
theorem kk_name (t : Row) : inV (.str t.name) [.str "pay", .str "cut"] = t.kk.isSome := by
  cases t <;> (dsimp only [Row.name, Row.kk, Option.isSome]; decide +kernel)
theorem occ_len (x : Str) : ∀ t : Row, (occ x t).length ≤ t.sz
  | .own r => by unfold occ; split <;> simp [Row.sz]
  | .cite _ => Nat.zero_le _
  | .take b => Nat.le_succ_of_le (occ_len x b)
  | .make _ _ b => Nat.le_succ_of_le (occ_len x b)
  | .pick r _ b => by have := occ_len x b; unfold occ; rw [List.length_append]; simp only [Row.sz]; split <;> simp <;> omega
  | .opn r _ _ b => by have := occ_len x b; unfold occ; rw [List.length_append]; simp only [Row.sz]; split <;> simp <;> omega
  | .offer a b => by have := occ_len x a; have := occ_len x b; unfold occ; rw [List.length_append]; simp only [Row.sz]; omega
  | .pay r _ a b => by have := occ_len x a; have := occ_len x b; unfold occ; rw [List.length_append, List.length_append, List.length_map]; simp only [Row.sz]; split <;> simp <;> omega
  | .cut _ _ a b => by have := occ_len x a; have := occ_len x b; unfold occ; rw [List.length_append, List.length_map]; simp only [Row.sz]; omega
end HA

/-! The boxes around the names, walked. -/
namespace HA
open PySem PySem.Spec PyProof.Rows L2 HX
section
variable {P : Program} {w : World} {K : PySem.W.Frag} {mg : Str → Option Value} {base : Heap}
def spBoxes2 (K : PySem.W.Frag) (n : Nat) : Sp := fun vs H Q _ => ∃ (v : V) (t : Row) (b F : Addr) (Ls : List Addr) (bs : List Kd) (f : Str → List (List Kd)) (m : Nat), vs = [v, .ref b, .ref F] ∧ Dp K H v t.d ∧ t.ht ≤ n ∧ m + t.sz ≤ 5000 ∧ bs.length + t.ht ≤ 1000 ∧ BoxAt K H b bs ∧ b ∉ F :: Ls ∧ BX K H F Ls f m ∧
  ∀ H' Ls', Kp (F :: Ls) H H' → (∀ L ∈ Ls', L ∈ Ls ∨ H L = none) → BX K H' F Ls' (fun x => f x ++ (occ x t).map (bs ++ ·)) (m + t.sz) → Q .non H'
/-- the boxes of one more name -/
theorem bx_add {H : Hp} {F b L : Addr} {Ls : List Addr} {f : Str → List (List Kd)} {m : Nat} {x : Str} {bs : List Kd} {kvs : List (Key × V)} {ws : List V} (bx : BX K H F Ls f m) (hF : H F = some (.dK kvs)) (hx : valV kvs (.inr x) = some (.ref L)) (hL : H L = some (.lst ws)) (hb : BoxAt K H b bs) (nb : b ∉ F :: Ls) :
    L ∈ Ls ∧ ws.length ≤ m ∧ BX K (upd H L (.lst (ws ++ [.ref b]))) F Ls (fun y => f y ++ if x = y then [bs] else []) (m + 1) := by
  obtain ⟨⟨kvs', hF', nd, lk, h1, h2, h3⟩, hl, hn⟩ := id bx
  rw [hF] at hF'
  cases hF'
  obtain ⟨x', ex, en⟩ := h1 _ _ hx
  cases ex
  obtain ⟨L', ws', e1, mL, hL', el, ne, all⟩ := en
  cases e1
  rw [hL] at hL'
  cases hL'
  have LF : L ≠ F := lst_dk hL hF
  have kL : Kp [L] H (upd H L (.lst (ws ++ [.ref b]))) := Kp.wr (.head _)
  have ntL : NT [L] H := fun y my o e => by
    rw [List.mem_singleton.mp my, hL] at e
    cases e
    exact ⟨fun xs z => (by cases z), fun ob xs z => (by cases z)⟩
  have lw : ws.length ≤ m := by rw [el]; exact hn x
  refine ⟨mL, lw, ⟨kvs, by rw [upd_ne LF.symm]; exact hF, nd, by omega, fun k v e => ?_, fun y e => ?_, h3⟩, fun M mM => ?_, fun y => ?_⟩
  · obtain ⟨y, ey, en⟩ := h1 k v e
    refine ⟨y, ey, ?_⟩
    subst ey
    by_cases c : x = y
    · subst c
      rw [hx] at e
      cases e
      rw [if_pos rfl]
      refine ⟨L, ws ++ [.ref b], rfl, mL, upd_same, by rw [List.length_append, List.length_append, el]; rfl, by simp, fun i w cs g1 g2 => ?_⟩
      by_cases ci : i < ws.length
      · rw [List.getElem?_append_left ci] at g1
        rw [List.getElem?_append_left (by omega)] at g2
        obtain ⟨b', e3, nb', hb'⟩ := all i w cs g1 g2
        exact ⟨b', e3, nb', hb'.kp kL ntL fun z => nb' (by rw [List.mem_singleton.mp z]; exact .tail _ mL)⟩
      · have hi := (List.getElem?_eq_some_iff.mp g1).1
        rw [List.length_append] at hi
        have ei : i = ws.length := by
          have : i < ws.length + 1 := hi
          omega
        subst ei
        rw [List.getElem?_append_right (Nat.le_refl _), Nat.sub_self] at g1
        rw [el, List.getElem?_append_right (Nat.le_refl _), Nat.sub_self] at g2
        cases g1
        cases g2
        exact ⟨b, rfl, nb, hb.kp kL ntL fun z => nb (by rw [List.mem_singleton.mp z]; exact .tail _ mL)⟩
    · rw [if_neg c, List.append_nil]
      refine en.go kL ntL (fun b' nb' _ => ⟨fun z => nb' (by rw [List.mem_singleton.mp z]; exact .tail _ mL), nb'⟩) (fun M e2 z => ?_) (fun M h => h)
      rw [List.mem_singleton.mp z] at e2
      subst e2
      exact c (h3 x y _ hx e)
  · have c : ¬ x = y := fun z => by
      rw [← z, hx] at e
      cases e
    rw [if_neg c, List.append_nil]
    exact h2 y e
  · by_cases c : M = L
    · subst c
      exact ⟨_, upd_same⟩
    · obtain ⟨us, e⟩ := hl M mM
      exact ⟨us, by rw [upd_ne c]; exact e⟩
  · rw [List.length_append]
    have := hn y
    split <;> simp <;> omega
/-- a name that was not there -/
theorem bx_new {H0 H : Hp} {F b L : Addr} {Ls : List Addr} {f : Str → List (List Kd)} {m : Nat} {x : Str} {bs : List Kd} {kvs : List (Key × V)} (s : Same H0 H) (bx0 : BX K H0 F Ls f m) (hF0 : H0 F = some (.dK kvs)) (hx : valV kvs (.inr x) = none) (n0 : H0 L = none) (hL : H L = some (.lst [])) (hb0 : BoxAt K H0 b bs) (nb : b ∉ F :: Ls) :
    BX K (upd (upd H F (.dK (putK kvs (.inr x) (.ref L)))) L (.lst ([] ++ [.ref b]))) F (L :: Ls) (fun y => f y ++ if x = y then [bs] else []) (m + 1) := by
  have nL : L ∉ F :: Ls := fun z => by
    rcases List.mem_cons.mp z with z | z
    · rw [z, hF0] at n0; cases n0
    · obtain ⟨us, e2⟩ := bx0.ls L z
      rw [e2] at n0
      cases n0
  have far : ∀ {b' : Addr} {cs : List Kd}, BoxAt K H0 b' cs → b' ≠ L := fun h => by
    obtain ⟨o, e⟩ := h.ex
    exact ne_of_none e n0
  have bL := far hb0
  have hb := hb0.sm s
  have hF := s _ _ hF0
  obtain ⟨⟨kvs', hF', nd, lk, h1, h2, h3⟩, hl, hn⟩ := id bx0
  rw [hF0] at hF'
  cases hF'
  have LF : L ≠ F := lst_dk hL hF
  have kk : Kp [F, L] H (upd (upd H F (.dK (putK kvs (.inr x) (.ref L)))) L (.lst ([] ++ [.ref b]))) := (Kp.wr (.head _)).trans (Kp.wr (.tail _ (.head _)))
  have nt2 : NT [F, L] H := NT.cons hF (fun y my o e => by
    rw [List.mem_singleton.mp my, hL] at e
    cases e
    exact ⟨fun xs z => (by cases z), fun ob xs z => (by cases z)⟩)
  have fx : f x = [] := h2 x hx
  have out : ∀ b', b' ∉ F :: Ls → b' ≠ L → b' ∉ [F, L] ∧ b' ∉ F :: L :: Ls := fun b' n1 n2 => ⟨fun z => by
    rcases List.mem_cons.mp z with rfl | z
    · exact n1 (.head _)
    · exact n2 (List.mem_singleton.mp z), fun z => by
    rcases List.mem_cons.mp z with rfl | z
    · exact n1 (.head _)
    · rcases List.mem_cons.mp z with rfl | z
      · exact n2 rfl
      · exact n1 (.tail _ z)⟩
  have lp := length_putK kvs (.inr x) (V.ref L)
  refine ⟨⟨putK kvs (.inr x) (.ref L), by rw [upd_ne LF.symm, upd_same], nd_put _ nd, by omega, fun k v e => ?_, fun y e => ?_, fun y z v e1 e2 => ?_⟩, fun M mM => ?_, fun y => ?_⟩
  · rw [valV_put] at e
    by_cases c : k = .inr x
    · rw [if_pos c] at e
      cases e
      refine ⟨x, c, L, [.ref b], rfl, .head _, upd_same, by rw [fx, if_pos rfl]; rfl, by simp, fun i w cs g1 g2 => ?_⟩
      rw [fx, if_pos rfl] at g2
      cases i with
      | zero =>
        cases g1
        cases g2
        exact ⟨b, rfl, (out b nb bL).2, hb.kp kk nt2 (out b nb bL).1⟩
      | succ i => cases g1
    · rw [if_neg c] at e
      obtain ⟨y, ey, en⟩ := h1 k v e
      have ne : ¬ x = y := fun z => c (by rw [ey, z])
      refine ⟨y, ey, ?_⟩
      rw [if_neg ne, List.append_nil]
      obtain ⟨M, us, e1, mM, hM, el, ne2, all⟩ := en
      have ML : M ≠ L := fun z => nL (by rw [← z]; exact .tail _ mM)
      have MF : M ≠ F := lst_dk hM hF0
      refine ⟨M, us, e1, .tail _ mM, by rw [upd_ne ML, upd_ne MF]; exact s _ _ hM, el, ne2, fun i w cs g1 g2 => ?_⟩
      obtain ⟨b', e3, nb', hb'⟩ := all i w cs g1 g2
      have b'L : b' ≠ L := far hb'
      exact ⟨b', e3, (out b' nb' b'L).2, (hb'.sm s).kp kk nt2 (out b' nb' b'L).1⟩
  · rw [valV_put] at e
    by_cases c : (.inr y : Key) = .inr x
    · rw [if_pos c] at e
      cases e
    · rw [if_neg c] at e
      rw [if_neg fun z => c (by rw [z]), List.append_nil]
      exact h2 y e
  · rw [valV_put] at e1 e2
    by_cases c1 : (.inr y : Key) = .inr x
    · by_cases c2 : (.inr z : Key) = .inr x
      · exact (Sum.inr.inj c1).trans (Sum.inr.inj c2).symm
      · rw [if_pos c1] at e1
        rw [if_neg c2] at e2
        cases e1
        obtain ⟨_, _, M, us, e3, mM, _⟩ := h1 _ _ e2
        cases e3
        exact absurd (.tail _ mM) nL
    · by_cases c2 : (.inr z : Key) = .inr x
      · rw [if_neg c1] at e1
        rw [if_pos c2] at e2
        cases e2
        obtain ⟨_, _, M, us, e3, mM, _⟩ := h1 _ _ e1
        cases e3
        exact absurd (.tail _ mM) nL
      · rw [if_neg c1] at e1
        rw [if_neg c2] at e2
        exact h3 y z v e1 e2
  · rcases List.mem_cons.mp mM with rfl | mM
    · exact ⟨_, upd_same⟩
    · obtain ⟨us, e⟩ := hl M mM
      have ML : M ≠ L := fun z => nL (by rw [← z]; exact .tail _ mM)
      exact ⟨us, by rw [upd_ne ML, upd_ne (lst_dk e hF0)]; exact s _ _ e⟩
  · rw [List.length_append]
    have := hn y
    split <;> simp <;> omega
theorem kk_mid {t : Row} {k : Kd} (h : t.kk = some k) : (t.name = "pay" ∧ ∃ r, t.mid = [kD r, k.d]) ∨ (t.name = "cut" ∧ ∃ s : Sn, t.mid = [k.d, s.d]) := by
  cases t <;> first | (cases h; exact .inl ⟨rfl, _, rfl⟩) | (cases h; exact .inr ⟨rfl, _, rfl⟩) | cases h
theorem mid_tu (t : Row) : tuAll (t.mid ++ t.kids.map Row.d) = true := by
  have h := t.tu
  rw [Row.d_eq] at h
  exact h
def szUp (t : Row) (i : Nat) : Nat := ((t.kids.take i).map Row.sz).sum
theorem szUp_step {t c : Row} {i : Nat} (h : t.kids[i]? = some c) : szUp t (i + 1) = szUp t i + c.sz := by
  unfold szUp
  rw [List.take_add_one, h, List.map_append, List.sum_append]
  simp
theorem szUp_le (t : Row) (i : Nat) : szUp t i + 1 ≤ t.sz := by
  have h := t.sz_kids
  have : szUp t i ≤ (t.kids.map Row.sz).sum := by
    unfold szUp
    have e : (t.kids.map Row.sz).sum = ((t.kids.take i).map Row.sz).sum + ((t.kids.drop i).map Row.sz).sum := by
      rw [← List.sum_append, ← List.map_append, List.take_append_drop]
    omega
  omega
theorem boxes_step (T : Tx K w mg) {n : Nat} (G__law_boxes : FnOk P w K mg base CX0 (n + 2) T.a__law_boxes T.d__law_boxes ["tree", "boxes", "found"] (spBoxes2 K n)) :
    FnOk P w K mg base CX0 (n + 3) T.a__law_boxes T.d__law_boxes ["tree", "boxes", "found"] (spBoxes2 K (n + 1)) := by
  have G__law_parts := ok_parts (P := P) (base := base) T (k := n)
  refine T.F__law_boxes.ok sc__law_boxes (fun vs H Q E h => ?_) (fun cdv A outer s H vs Q E hr h => ?_)
  · obtain ⟨v, t, b, F, Ls, bs, f, m, rfl, _⟩ := h
    rfl
  obtain ⟨v, t, b, F, Ls, bs, f, m, rfl, hv, ht, hz, hl, hb, nb, bx, q⟩ := h
  obtain ⟨a, xs, rfl, hs, hx⟩ := Row.at_ hv
  have sz1 : 1 ≤ t.sz := by cases t <;> simp [Row.sz]
  refine ⟨_, (C8.pss_cut (ps_if (PW.pt (pw_and (pt_cmpR op_in_seq (pe_ix ix_tup (pv 0) pe_int (fun _ _ => rfl)) (pe_tupN (pa_cons pe_str (pa_cons pe_str (pa_cons pe_str (pa_cons pe_str pa_nil))))) (by rfl)) (pw_and1 (pt_val (pe_callB call_isi (by rfl) T.z_isinstance (by decide +kernel) (pa_cons (pe_ix ix_tup (pv 0) pe_int (fun _ _ => rfl)) (pa_cons (pe_bltn (v := .ty "str") (by rfl) T.z_str (by decide +kernel) rfl) pa_nil)))))))
      (pss_cons (ps_set (i := 3) sc__law_boxes.nd rfl (Or.inl rfl) (pe_dsetd (pv 2) (pe_ix ix_tup (pv 0) pe_int (fun _ _ => rfl)) (pe_lstN pa_nil) ⟨rfl, rfl, rfl, rfl⟩))
      (pss_one (ps_expr (pe_bm PySem.F.plainAttrs_list PySem.F.slot_list_append PySem.F.type_list_append mt_append (pv 3) (pa_cons (pv 1) pa_nil)))))
      pss_nil)
    (pss_cons (ps_set (i := 4) sc__law_boxes.nd rfl (Or.inl rfl) (pe_call (G__law_parts) hr (by rfl) T.g__law_parts T.k__law_parts T.b__law_parts .nil pass0 (pa_cons (pv 0) pa_nil)))
    (pss_one (ps_for PassesOwn.never rfl (pi_range1 (by rfl) T.z_range (pa_cons (pe_callB call_len_seq (by rfl) T.z_len (by decide +kernel) (pa_cons (pv 4) pa_nil)) pa_nil)) (pg_name (i := 5) sc__law_boxes.nd rfl (Or.inl rfl))
      (pss_cons (ps_set (i := 6) sc__law_boxes.nd rfl (Or.inl rfl) (pv 1))
      (C8.pss_cut (ps_if (PW.pt (pw_and (pt_cmpR op_eq (pv 5) pe_int (nomark _)) (pw_and1 (pt_cmpR op_in_seq (pe_ix ix_tup (pv 0) pe_int (fun _ _ => rfl)) (pe_tupN (pa_cons pe_str (pa_cons pe_str pa_nil))) (by rfl)))))
        (pss_one (ps_set (i := 6) sc__law_boxes.nd rfl (Or.inl rfl) (pe_op op_catL (pv 1) (pe_lstN (pa_cons (pe_ix ix_tup (pv 0) (pe_op op_add pe_int (pe_callTy call_int1 (by rfl) T.z_int (by decide +kernel) (pa_cons (pe_cmpR op_eq (pe_ix ix_tup (pv 0) pe_int (fun _ _ => rfl)) pe_str (nomark _)) pa_nil))) (fun _ _ => rfl)) pa_nil)))))
        pss_nil)
      (pss_one (ps_expr (pe_call (G__law_boxes) hr (by rfl) T.g__law_boxes T.k__law_boxes T.b__law_boxes .nil pass0 (pa_cons (pe_ix ix_list (pv 4) (pv 5) (fun _ _ => rfl)) (pa_cons (pv 6) (pa_cons (pv 2) pa_nil)))))))))))), ?_⟩
  refine ⟨fun σ' H' => ∃ (y3 : Option V) (Ls1 : List Addr), σ' = [some (.ref a), some (.ref b), some (.ref F), y3, none, none, none] ∧ Kp (F :: Ls) H H' ∧ (∀ L ∈ Ls1, L ∈ Ls ∨ H L = none) ∧ BX K H' F Ls1 (fun x => f x ++ ownB t bs x) (m + 1), ?_, ?_⟩
  · have plain : ∀ {H1 : Hp}, Same H H1 → (∀ x, ownB t bs x = []) → ∃ (y3 : Option V) (Ls1 : List Addr), ([some (.ref a), some (.ref b), some (.ref F), none, none, none, none] : L2.St) = [some (.ref a), some (.ref b), some (.ref F), y3, none, none, none] ∧ Kp (F :: Ls) H H1 ∧ (∀ L ∈ Ls1, L ∈ Ls ∨ H L = none) ∧ BX K H1 F Ls1 (fun x => f x ++ ownB t bs x) (m + 1) := fun {H1} s1 e => by
      refine ⟨none, Ls, rfl, Kp.of s1, fun L h => .inl h, ?_⟩
      rw [show (fun x => f x ++ ownB t bs x) = f from funext fun x => by rw [e x, List.append_nil]]
      exact (bx.sm s1).mono (Nat.le_succ _)
    refine ⟨_, rfl, a, _, 0, .str t.name, rfl, rfl, hs, atI_at (j := 0) rfl rfl, by decide, fun H1 p s1 np hp => ⟨p, _, rfl, .inr (SqT.of hp), rfl, rfl, _, rfl, iteB (fun e => ?_) (fun e => ?_)⟩⟩
    · have e' : inV (.str t.name) refNames = true := e
      rw [ref_name] at e'
      cases hr' : t.ref with
      | none => rw [hr'] at e'; cases e'
      | some r =>
        obtain ⟨mm, hm⟩ := Row.mid_some hr'
        rw [hm] at hx
        obtain ⟨v1, xs, rfl, g1, hx⟩ := dc1 hx
        obtain rfl := g1.key_inv
        obtain ⟨ty, t1, _, t3⟩ := ty_key (K := K) (H := H1) r
        refine ⟨_, rfl, a, _, 1, kV r, rfl, rfl, s1.seqT hs, atI_at (j := 1) rfl rfl, _, _, ty, .type "str", _, rfl, .ty _, t1, t3, _, rfl, ?_⟩
        cases r with
        | inl i =>
          refine iteF (plain s1 fun x => ?_)
          unfold ownB
          rw [hr', if_neg (by intro z; cases z)]
        | inr x =>
          refine iteT ?_
          have bx1 := bx.sm s1
          have hb1 := hb.sm s1
          obtain ⟨kvs, hF, nd, lk, r1, r2, r3⟩ := bx1.dict
          have ow : (fun y => f y ++ ownB t bs y) = fun y => f y ++ if x = y then [bs] else [] := funext fun y => by
            unfold ownB
            rw [hr']
            by_cases c : x = y
            · subst c; rw [if_pos rfl, if_pos rfl]
            · rw [if_neg c, if_neg fun z => c (Sum.inr.inj (Option.some.inj z))]
          refine ⟨_, rfl, F, rfl, .inl ⟨_, .inl hF⟩, _, rfl, a, _, 1, .str x, rfl, rfl, s1.seqT hs, atI_at (j := 1) rfl rfl, Nat.zero_le _, fun H2 L0 s2 n2 h2 => ?_⟩
          have bx2 := bx1.sm s2
          have hb2 := hb1.sm s2
          have hF2 := s2 _ _ hF
          have s02 := s1.trans s2
          refine ⟨kvs, .inr x, hF2, rfl, sz_lt (by omega), fun v hv => ?_, fun hn => ?_⟩
          · have hx1 := r1 _ _ hv
            obtain ⟨x', ex, L, ws, e1, mL, hL, _⟩ := hx1
            have hL2 := s2 _ _ hL
            have hv' : valV kvs (.inr x) = some (.ref L) := by rw [hv, e1]
            obtain ⟨_, lw, bx3⟩ := bx_add bx2 hF2 hv' hL2 hb2 nb
            rw [e1]
            have kk : Kp (F :: Ls) H (upd H2 L (.lst (ws ++ [.ref b]))) := (Kp.of s02).trans (Kp.wr (.tail _ mL))
            refine ⟨.ref L, rfl, .inl ⟨rfl, ws, SqL.of hL2⟩, .ref b, rfl, L, ws, .ref b, rfl, rfl, hL2, sz_lt (by omega), ?_⟩
            refine ⟨some (.ref L), Ls, rfl, kk, fun L h => .inl h, ?_⟩
            rw [ow]
            exact bx3
          · have nL0 : H L0 = none := s1.free n2
            have LF : L0 ≠ F := lst_dk h2 hF2
            have hL3 : upd H2 F (.dK (putK kvs (.inr x) (.ref L0))) L0 = some (.lst []) := by rw [upd_ne LF]; exact h2
            refine ⟨_, rfl, .inl ⟨rfl, _, SqL.of hL3⟩, _, rfl, L0, [], _, rfl, rfl, hL3, sz_lt (Nat.zero_le _), ?_⟩
            refine ⟨some (.ref L0), L0 :: Ls, rfl, ((Kp.of s02).trans (Kp.wr (.head _))).mut nL0, fun L h => ?_, ?_⟩
            · rcases List.mem_cons.mp h with rfl | h
              · exact .inr nL0
              · exact .inl h
            · rw [ow]
              exact bx_new s2 bx1 hF hn n2 h2 hb1 nb
    · have e' : inV (.str t.name) refNames = false := e
      rw [ref_name] at e'
      refine iteF (plain s1 fun x => ?_)
      unfold ownB
      cases hr' : t.ref with
      | some r => rw [hr'] at e'; cases e'
      | none => rw [if_neg (by intro z; cases z)]
  rintro σ' H1 ⟨y3, Ls1, rfl, k1, fr1, bx1⟩
  refine ⟨_, rfl, .ref a, t, rfl, dpN k1 bx.nt _ _ t.tu hv, fun H2 p ws s2 np hp hw => ?_⟩
  have bx2 := bx1.sm s2
  have k02 : Kp (F :: Ls) H H2 := k1.trans (Kp.of s2)
  have lw := hw.len
  rw [List.length_map] at lw
  have lk := t.len_kids
  have pF : p ∉ F :: Ls1 := fun z => by
    rcases List.mem_cons.mp z with z | z
    · obtain ⟨kvs, hF, _⟩ := bx1.dict
      rw [z, hF] at np; cases np
    · obtain ⟨us, e2⟩ := bx1.ls p z
      rw [e2] at np
      cases np
  have Fex : ∀ {Hx : Hp} {Lx : List Addr} {g : Str → List (List Kd)} {mm : Nat}, BX K Hx F Lx g mm → ∃ o, Hx F = some o := fun b => by
    obtain ⟨kvs, hF, _⟩ := b.dict
    exact ⟨_, hF⟩
  refine ⟨_, rfl, p, _, rfl, .inl (SqL.of hp), _, rfl, by omega, by omega, ?_⟩
  refine for_range (fun i σ' H' => ∃ (y5 y6 : Option V) (Li : List Addr), σ' = [some (.ref a), some (.ref b), some (.ref F), y3, some (.ref p), y5, y6] ∧ Kp (F :: Ls) H H' ∧ (∀ L ∈ Li, L ∈ Ls ∨ H L = none) ∧ Kp (F :: Ls1) H2 H' ∧ (∀ L ∈ Li, L ∈ Ls1 ∨ H2 L = none) ∧
      BX K H' F Li (fun x => f x ++ (ownB t bs x ++ occUp x t bs i)) (m + 1 + szUp t i))
    ⟨none, none, Ls1, rfl, k02, fr1, Kp.refl _, fun L h => .inl h, ?_⟩ ?_ ?_
  · rw [show (fun x => f x ++ (ownB t bs x ++ occUp x t bs 0)) = fun x => f x ++ ownB t bs x from funext fun x => by rw [show occUp x t bs 0 = [] from rfl, List.append_nil]]
    exact bx2
  · rintro i σ' H3 hi ⟨y5, y6, Li, rfl, k3, fr3, k23, fr23, bx3⟩
    have hi' : i < t.kids.length := by omega
    obtain ⟨c, hc⟩ : ∃ c, t.kids[i]? = some c := ⟨_, List.getElem?_eq_getElem hi'⟩
    have cm : c ∈ t.kids := List.mem_of_getElem? hc
    have ch := Row.ht_kid cm
    have hw3 := dpNAll k23 bx2.nt _ _ (Row.tuKids t.kids) hw
    obtain ⟨xv, hxv, hxd⟩ := hw3.at (show (t.kids.map Row.d)[i]? = some c.d by rw [List.getElem?_map, hc]; rfl)
    have hp3 : H3 p = some (.lst ws) := k23 _ _ pF hp
    have hs3 : SqT K H3 a _ := Kp.seqN k3 bx.nt hs
    have hx3 := dpNAll k3 bx.nt _ _ (mid_tu t) hx
    have hb3 := hb.kp k3 bx.nt nb
    obtain ⟨ob, hob⟩ := hb.ex
    have nb3 : b ∉ F :: Li := keep_out fr3 nb hob
    have s1 := szUp_step hc
    have s2' := szUp_le t (i + 1)
    refine ⟨_, rfl, ?_⟩
    refine ⟨fun σ' H' => ∃ cA : Addr, σ' = [some (.ref a), some (.ref b), some (.ref F), y3, some (.ref p), some (.int (0 + (i : Int))), some (.ref cA)] ∧ Same H3 H' ∧ BoxAt K H' cA (kidBs t bs i) ∧ cA ∉ F :: Li, ?_, ?_⟩
    · refine ⟨_, rfl, rfl, _, rfl, iteB (fun c1 => ?_) (fun c1 => ?_)⟩
      · have i0 : i = 0 := by
          have := V.int.inj (of_decide_eq_true c1)
          omega
        refine ⟨_, rfl, a, _, 0, .str t.name, rfl, rfl, hs3, atI_at (j := 0) rfl rfl, by decide, fun H4 pp s4 npp hpp => ⟨pp, _, rfl, .inr (SqT.of hpp), rfl, rfl, _, rfl, iteB (fun e => ?_) (fun e => ?_)⟩⟩
        · have e' : inV (.str t.name) [.str "pay", .str "cut"] = true := e
          rw [kk_name] at e'
          obtain ⟨kd, ekk⟩ := Option.isSome_iff_exists.mp e'
          have hs4 := s4.seqT hs3
          have hb4 := hb3.sm s4
          obtain ⟨wb, hwb, hkb⟩ := hb4
          have lkb := hkb.len
          rw [List.length_map] at lkb
          have fin : ∀ (vk : V) (z : Int), Dp K H4 vk kd.d → atI (V.str t.name :: xs) z = some vk → ∀ H5 lc, Same H4 H5 → H4 lc = none → H5 lc = some (.lst [vk]) → ∀ H6 cc, Same H5 H6 → H5 cc = none → H6 cc = some (.lst (wb ++ [vk])) → ∃ cA : Addr, ([some (.ref a), some (.ref b), some (.ref F), y3, some (.ref p), some (.int (0 + (i : Int))), some (.ref cc)] : L2.St) = [some (.ref a), some (.ref b), some (.ref F), y3, some (.ref p), some (.int (0 + (i : Int))), some (.ref cA)] ∧ Same H3 H6 ∧ BoxAt K H6 cA (kidBs t bs i) ∧ cA ∉ F :: Li := fun vk z hk ha H5 lc s5 n5 h5 H6 cc s6 n6 h6 => by
            refine ⟨cc, rfl, (s4.trans s5).trans s6, ⟨wb ++ [vk], h6, ?_⟩, fun z => ?_⟩
            · unfold kidBs
              rw [if_pos i0, ekk]
              show DpAll K H6 (wb ++ [vk]) ((bs ++ [kd]).map Kd.d)
              rw [List.map_append]
              exact (Dp.smAll (s5.trans s6) _ _ hkb).app (.cons (Dp.sm (s5.trans s6) _ _ hk) .nil)
            · have s35 := s4.trans s5
              rcases List.mem_cons.mp z with z | z
              · obtain ⟨o, e2⟩ := Fex bx3
                rw [z, s35 _ _ e2] at n6; cases n6
              · obtain ⟨us, e2⟩ := bx3.ls cc z
                rw [s35 _ _ e2] at n6
                cases n6
          refine ⟨_, rfl, _, rfl, _, rfl, a, _, 0, .str t.name, rfl, rfl, hs4, atI_at (j := 0) rfl rfl, rfl, ?_⟩
          have hx4 := Dp.smAll s4 _ _ hx3
          rcases kk_mid ekk with ⟨en, r, em⟩ | ⟨en, sn, em⟩
          · rw [em] at hx4
            obtain ⟨v1, xs', ex, g1, hx4⟩ := dc1 hx4
            obtain ⟨v2, xs', ex2, g2, hx4⟩ := dc1 hx4
            rw [decide_eq_true (congrArg V.str en)]
            refine .inr ⟨true, rfl, _, _, rfl, rfl, a, _, _, v2, rfl, rfl, hs4, ?_, (by show 1 ≤ 1000; decide), fun H5 lc s5 n5 h5 => ⟨b, lc, wb, [v2], rfl, rfl, s5 _ _ hwb, h5, sz_le (by show wb.length + 1 ≤ 100000; omega), fun H6 cc s6 n6 h6 => fin v2 2 g2 ?_ H5 lc s5 n5 h5 H6 cc s6 n6 h6⟩⟩
            · rw [ex, ex2]; exact atI_at (j := 2) rfl rfl
            · rw [ex, ex2]; exact atI_at (j := 2) rfl rfl
          · rw [em] at hx4
            obtain ⟨v1, xs', ex, g1, hx4⟩ := dc1 hx4
            rw [decide_eq_false (show ¬ V.str t.name = V.str "pay" by rw [en]; intro z; exact absurd (V.str.inj z) (by decide +kernel))]
            refine .inr ⟨false, rfl, _, _, rfl, rfl, a, _, _, v1, rfl, rfl, hs4, ?_, (by show 1 ≤ 1000; decide), fun H5 lc s5 n5 h5 => ⟨b, lc, wb, [v1], rfl, rfl, s5 _ _ hwb, h5, sz_le (by show wb.length + 1 ≤ 100000; omega), fun H6 cc s6 n6 h6 => fin v1 1 g1 ?_ H5 lc s5 n5 h5 H6 cc s6 n6 h6⟩⟩
            · rw [ex]; exact atI_at (j := 1) rfl rfl
            · rw [ex]; exact atI_at (j := 1) rfl rfl
        · have e' : inV (.str t.name) [.str "pay", .str "cut"] = false := e
          rw [kk_name] at e'
          refine ⟨b, rfl, s4, ?_, nb3⟩
          have ek : kidBs t bs i = bs := by
            unfold kidBs
            rw [if_pos i0]
            cases hk : t.kk with
            | none => exact List.append_nil _
            | some k => rw [hk] at e'; cases e'
          rw [ek]
          exact hb3.sm s4
      · have i0 : i ≠ 0 := fun z => by
          subst z
          exact of_decide_eq_false c1 rfl
        refine ⟨b, rfl, Same.refl _, ?_, nb3⟩
        unfold kidBs
        rw [if_neg i0]
        exact hb3
    rintro σ' H4 ⟨cA, rfl, s4, hcA, ncA⟩
    have lkb : (kidBs t bs i).length ≤ bs.length + 1 := by
      unfold kidBs
      split
      · rw [List.length_append]
        cases t.kk <;> simp
      · omega
    refine ⟨_, rfl, _, rfl, p, ws, _, xv, rfl, rfl, SqL.of (s4 _ _ hp3), atI_at (j := i) (by omega) hxv, _, rfl, _, rfl, xv, c, cA, F, Li, kidBs t bs i, _, _, rfl, Dp.sm s4 _ _ hxd, by omega, by omega, by omega, hcA, ncA, bx3.sm s4, fun H5 Ls5 k5 fr5 bx5 => ?_⟩
    have k35 : Kp (F :: Li) H3 H5 := (Kp.of s4).trans k5
    have fr35 : ∀ L ∈ Ls5, L ∈ Li ∨ H3 L = none := fun L h => (fr5 L h).imp id fun e => by
      cases e2 : H3 L with
      | none => rfl
      | some o => rw [s4 _ _ e2] at e; cases e
    refine ⟨_, _, Ls5, rfl, Kp.chain k3 fr3 k35, fr_chain k3 (Fex bx3) fr3 fr35, Kp.chain k23 fr23 k35, fr_chain k23 (Fex bx3) fr23 fr35, ?_⟩
    rw [s1, ← Nat.add_assoc, show (fun x => f x ++ (ownB t bs x ++ occUp x t bs (i + 1))) = fun x => (f x ++ (ownB t bs x ++ occUp x t bs i)) ++ (occ x c).map (kidBs t bs i ++ ·) from funext fun x => by
      show f x ++ (ownB t bs x ++ (occUp x t bs i ++ occAt x t bs i)) = _
      rw [show occAt x t bs i = (occ x c).map (kidBs t bs i ++ ·) by unfold occAt; rw [hc], List.append_assoc, List.append_assoc]]
    exact bx5
  · rintro σ' H3 ⟨y5, y6, Li, rfl, k3, fr3, k23, fr23, bx3⟩
    rw [show ((ws.length : Int)).toNat = t.kids.length by omega] at bx3
    refine q H3 Li k3 fr3 ?_
    rw [show (fun x => f x ++ (occ x t).map (bs ++ ·)) = fun x => f x ++ (ownB t bs x ++ occUp x t bs t.kids.length) from funext fun x => by rw [occ_eq]]
    refine bx3.mono ?_
    have := szUp_le t t.kids.length
    omega
theorem ok_boxes (T : Tx K w mg) : ∀ n : Nat, FnOk P w K mg base CX0 (n + 2) T.a__law_boxes T.d__law_boxes ["tree", "boxes", "found"] (spBoxes2 K n)
  | 0 => by
    have no : ∀ vs H Q E, ¬ spBoxes2 K 0 vs H Q E := fun vs H Q E h => by
      obtain ⟨v, t, b, F, Ls, bs, f, m, _, _, hn, _⟩ := h
      have := t.ht_pos
      omega
    exact ⟨fun vs H Q E h => absurd h (no vs H Q E), fun A outer s H args us vs Q E _ _ _ _ h => absurd h (no vs H Q E)⟩
  | n + 1 => boxes_step T (ok_boxes T n)
end
end HA

/-! Kinds one by one. -/
namespace HA
open PySem PySem.Spec PyProof.Rows L2 HX
theorem occ_ok (x : Str) : ∀ t : Row, t.ok → ∀ bs ∈ occ x t, ∀ k ∈ bs, k.ok := by
  have one : ∀ (r : Key) (bs : List Kd), bs ∈ (if r = .inr x then [[]] else ([] : List (List Kd))) → ∀ k ∈ bs, k.ok := fun r bs m k mk => by
    split at m
    · rw [List.mem_singleton.mp m] at mk; cases mk
    · cases m
  have pre : ∀ (k0 : Kd) (l : List (List Kd)), k0.ok → (∀ bs ∈ l, ∀ k ∈ bs, k.ok) → ∀ bs ∈ l.map (k0 :: ·), ∀ k ∈ bs, k.ok := fun k0 l h0 h bs m k mk => by
    obtain ⟨cs, mc, rfl⟩ := List.mem_map.mp m
    rcases List.mem_cons.mp mk with rfl | mk
    · exact h0
    · exact h cs mc k mk
  have app : ∀ (l l' : List (List Kd)), (∀ bs ∈ l, ∀ k ∈ bs, k.ok) → (∀ bs ∈ l', ∀ k ∈ bs, k.ok) → ∀ bs ∈ l ++ l', ∀ k ∈ bs, k.ok := fun l l' h h' bs m => (List.mem_append.mp m).elim (h bs) (h' bs)
  intro t
  induction t with
  | own r => exact fun _ => one r
  | cite y => exact fun _ bs m => by cases m
  | take b ih => exact fun h => ih h
  | make y i b ih => exact fun h => ih h
  | pick r s b ih => exact fun h => app _ _ (one r) (ih h)
  | opn r y i b ih => exact fun h => app _ _ (one r) (ih h)
  | offer a b ha hb => exact fun h => app _ _ (ha h.1) (hb h.2)
  | pay r k a b ha hb => exact fun h => app _ _ (one r) (app _ _ (pre k _ h.1 (ha h.2.1)) (hb h.2.2))
  | cut k s a b ha hb => exact fun h => app _ _ (pre k _ h.1 (ha h.2.1)) (hb h.2.2)
theorem fit_pos {f : CF} (pf : Pos f) {c : Clm} {h : Hold} (m : h ∈ (c.fit f).hs) : h.kd.pos := by
  obtain ⟨g, gm, e⟩ := List.mem_filterMap.mp m
  unfold fitH at e
  cases ek : g.kd with
  | once => rw [ek] at e; cases e; rw [ek]; trivial
  | st n k =>
    rw [ek] at e
    obtain ⟨t, et, rfl⟩ := Option.map_eq_some_iff.mp e
    have := pf _ _ et
    exact ⟨this.2.1, this.2.2⟩
theorem kit_bb {K : PySem.W.Frag} : PySem.W.kitOne K (.type "bool") (.type "bool") = some true := kit_ty (by decide +kernel)
section
variable {P : Program} {w : World} {K : PySem.W.Frag} {mg : Str → Option Value} {base : Heap}
def spNest (K : PySem.W.Frag) : Sp := fun vs H Q _ => ∃ (b : Addr) (v : V) (bs : List Kd) (y : Int), vs = [.ref b, v] ∧ BoxAt K H b bs ∧ (∀ k ∈ bs, k.ok) ∧ TpAt K H v (y, (nestK bs).pr) ∧ ∀ H', Same H H' → Q (.bl true) H'
theorem ok_law_nested (T : Tx K w mg) {k : Nat} : FnOk P w K mg base CX0 (k + 10) T.a__law_nested T.d__law_nested ["boxes", "told"] (spNest K) := by
  have G__law_same := ok_same (P := P) (base := base) T (k + 8)
  have G_nested := ok_nested (P := P) (base := base) T (k := k + 8)
  refine T.F__law_nested.ok sc__law_nested (fun vs H Q E h => ?_) (fun cdv A outer s H vs Q E hr h => ?_)
  · obtain ⟨b, v, bs, y, rfl, _⟩ := h
    rfl
  obtain ⟨b, v, bs, y, rfl, ⟨ws, hb, hk⟩, ok, ⟨ta, rfl, hta⟩, q⟩ := h
  have lk := hk.len
  rw [List.length_map] at lk
  refine ⟨_, (pss_cons (ps_set (i := 2) sc__law_nested.nd rfl (Or.inl rfl) pe_str)
    (pss_cons (ps_for PassesOwn.never rfl (pi_reversed (by rfl) T.z_reversed (pa_cons (pv 0) pa_nil)) (pg_name (i := 3) sc__law_nested.nd rfl (Or.inl rfl))
      (pss_cons (ps_set (i := 4) sc__law_nested.nd rfl (Or.inl rfl) (pv 2))
      (C8.pss_cut (ps_if (PW.pt (pw_and (pt_cmpR (op_neD hr.units) (pv 3) pe_str (nomark _)) (pw_and1 (pt_cmpR (op_neD hr.units) (pv 2) pe_str (nomark _)))))
        (pss_one (ps_set (i := 4) sc__law_nested.nd rfl (Or.inl rfl) (pe_tupN (pa_cons (pe_op op_mul (pe_ix ix_tup (pv 3) pe_int (fun _ _ => rfl)) (pe_ix ix_tup (pv 2) pe_int (fun _ _ => rfl))) (pa_cons (pe_op op_add (pe_ix ix_tup (pv 3) pe_int (fun _ _ => rfl)) (pe_ix ix_tup (pv 2) pe_int (fun _ _ => rfl))) pa_nil)))))
        (pss_one (ps_if (pt_cmpR (op_neD hr.units) (pv 3) pe_str (nomark _))
          (pss_one (ps_set (i := 4) sc__law_nested.nd rfl (Or.inl rfl) (pv 3)))
          pss_nil)))
      (pss_cons (ps_if (pt_not (pt_val (pe_call (G__law_same) hr (by rfl) T.g__law_same T.k__law_same T.b__law_same .nil pass0 (pa_cons (pe_call (G_nested) hr (by rfl) T.g_nested T.k_nested T.b_nested .nil pass0 (pa_cons (pv 3) (pa_cons (pv 2) pa_nil))) (pa_cons (pv 4) pa_nil)))))
        (pss_one (ps_ret pe_bl))
        pss_nil)
      (pss_one (ps_set (i := 2) sc__law_nested.nd rfl (Or.inl rfl) (pv 4)))))))
    (C8.pss_cut (ps_if (pt_cmpR (op_eqD hr.units) (pv 2) pe_str (nomark _))
      (pss_one (ps_set (i := 2) sc__law_nested.nd rfl (Or.inl rfl) (pe_tupN (pa_cons pe_int (pa_cons pe_int pa_nil)))))
      pss_nil)
    (pss_one (ps_ret (pe_cmpR (op_eqD hr.units) (pe_slice sl_tupN (pv 1) (po_some pe_int) po_none) (pv 2) (nomark _))))))), ?_⟩
  refine ⟨_, rfl, b, ws, rfl, SqL.of hb, ?_⟩
  refine for_it walk_rev (fun j σ' H' => ∃ (u : V) (y3 y4 : Option V), σ' = [some (.ref b), some (.ref ta), some u, y3, y4] ∧ Same H H' ∧ Dp K H' u (nestK (bs.drop (bs.length - j))).d) ⟨.str "once", none, none, rfl, Same.refl H, ?_⟩ (fun j σ' H' _ ⟨_, _, _, _, s', _⟩ => SqL.of (s' _ _ hb)) ?_ ?_
  · rw [Nat.sub_zero, List.drop_length]
    exact .str _
  · rintro j x σ' H1 H1' hj ⟨u, y3, y4, rfl, s1, hu⟩ ⟨rfl, hx⟩
    have hlt : bs.length - 1 - j < bs.length := by omega
    obtain ⟨d, hd, hxd⟩ := (Dp.smAll s1 _ _ hk).atV hx
    rw [List.getElem?_map, lk, List.getElem?_eq_getElem hlt] at hd
    cases hd
    have ekd : ∃ kd, bs[bs.length - 1 - j] = kd ∧ kd ∈ bs := ⟨_, rfl, List.getElem_mem hlt⟩
    have edr : bs.drop (bs.length - (j + 1)) = bs[bs.length - 1 - j] :: bs.drop (bs.length - j) := by
      rw [show bs.length - (j + 1) = bs.length - 1 - j by omega, List.drop_eq_getElem_cons hlt, show bs.length - 1 - j + 1 = bs.length - j by omega]
    obtain ⟨kd, ek, km⟩ := ekd
    rw [ek] at hxd edr
    rw [edr]
    show _
    have en : nestK (kd :: bs.drop (bs.length - j)) = kd.nst (nestK (bs.drop (bs.length - j))) := rfl
    rw [en]
    revert hu
    generalize nestK (bs.drop (bs.length - j)) = md
    intro hu
    refine ⟨_, rfl, ?_⟩
    refine ⟨fun σ' H' => ∃ wv : V, σ' = [some (.ref b), some (.ref ta), some u, some x, some wv] ∧ Same H1' H' ∧ Dp K H' wv (kd.nst md).d, ?_, ?_⟩
    · refine ⟨_, rfl, kd.d, .str "once", hxd, .str _, shaped_kd _, shaped_once, _, rfl, ?_⟩
      rw [eqv_once]
      rcases dp_kd hxd with ⟨rfl, rfl⟩ | ⟨ka, n, d, rfl, rfl, hka⟩
      · rw [decide_eq_true rfl]
        refine iteF ?_
        refine ⟨_, rfl, Kd.once.d, .str "once", hxd, .str _, shaped_kd _, shaped_once, _, rfl, ?_⟩
        rw [eqv_once, decide_eq_true rfl]
        exact iteF ⟨u, rfl, Same.refl _, hu⟩
      · rw [decide_eq_false (show ¬ Kd.st n d = .once by intro z; cases z)]
        refine iteT ⟨_, rfl, md.d, .str "once", hu, .str _, shaped_kd _, shaped_once, _, rfl, ?_⟩
        rw [eqv_once]
        rcases dp_kd hu with ⟨rfl, rfl⟩ | ⟨kb, m, e, rfl, rfl, hkb⟩
        · rw [decide_eq_true rfl]
          refine iteF ?_
          refine ⟨_, rfl, (Kd.st n d).d, .str "once", hxd, .str _, shaped_kd _, shaped_once, _, rfl, ?_⟩
          rw [eqv_once, decide_eq_false (show ¬ Kd.st n d = .once by intro z; cases z)]
          exact iteT ⟨_, rfl, _, rfl, Same.refl _, hxd⟩
        · rw [decide_eq_false (show ¬ Kd.st m e = .once by intro z; cases z)]
          refine iteT ?_
          have o1 : 1 ≤ n ∧ n ≤ 1000000 ∧ 0 ≤ d ∧ d ≤ 1000000 := ok _ km
          refine ⟨_, rfl, ka, _, 0, .int n, rfl, rfl, hka, atI_at (j := 0) rfl rfl, _, rfl, kb, _, 0, .int m, rfl, rfl, hkb, atI_at (j := 0) rfl rfl, _, _, rfl, rfl, .inl ⟨by omega, by omega⟩, ?_⟩
          refine ⟨_, rfl, ka, _, 1, .int d, rfl, rfl, hka, atI_at (j := 1) rfl rfl, _, rfl, kb, _, 1, .int e, rfl, rfl, hkb, atI_at (j := 1) rfl rfl, _, _, rfl, rfl, ?_⟩
          exact ⟨(by show 2 ≤ 1000; decide), fun H2 p s2 np hp => ⟨_, rfl, s2, .tup (SqT.of hp) (.cons (.int _) (.cons (.int _) .nil))⟩⟩
    rintro σ' H2 ⟨wv, rfl, s2, hwv⟩
    refine ⟨_, rfl, _, rfl, x, u, kd, md, rfl, Dp.sm s2 _ _ hxd, Dp.sm s2 _ _ hu, ok _ km, fun H3 r3 s3 h3 => ?_⟩
    refine ⟨_, rfl, r3, wv, _, rfl, h3, Dp.sm s3 _ _ hwv, pl_kd _, by have := kd_dep (kd.nst md); omega, fun H4 s4 => ⟨_, rfl, iteF ?_⟩⟩
    exact ⟨_, rfl, _, _, _, rfl, (s1.trans s2).trans (s3.trans s4), Dp.sm (s3.trans s4) _ _ hwv⟩
  · rintro σ' H1 ⟨u, y3, y4, rfl, s1, hu⟩
    rw [lk, Nat.sub_self, List.drop_zero] at hu
    have ht1 := s1.seqT hta
    revert hu ht1
    generalize nestK bs = md
    intro hu ht1
    refine ⟨fun σ' H' => ∃ wv : V, σ' = [some (.ref b), some (.ref ta), some wv, y3, y4] ∧ Same H1 H' ∧ Dp K H' wv (.tuple [.int md.pr.1, .int md.pr.2]), ?_, ?_⟩
    · refine ⟨_, rfl, md.d, .str "once", hu, .str _, shaped_kd _, shaped_once, _, rfl, ?_⟩
      rw [eqv_once]
      rcases dp_kd hu with ⟨rfl, rfl⟩ | ⟨ka, n, d, rfl, rfl, hka⟩
      · rw [decide_eq_true rfl]
        exact iteT ⟨(by show 2 ≤ 1000; decide), fun H2 p s2 np hp => ⟨_, rfl, s2, .tup (SqT.of hp) (.cons (.int _) (.cons (.int _) .nil))⟩⟩
      · rw [decide_eq_false (show ¬ Kd.st n d = .once by intro z; cases z)]
        exact iteF ⟨_, rfl, Same.refl _, hu⟩
    rintro σ' H2 ⟨wv, rfl, s2, hwv⟩
    refine ⟨_, rfl, 1, rfl, ta, _, rfl, s2.seqT ht1, fun H3 c3 s3 h3 => ?_⟩
    rw [show (1 : Int) = ((1 : Nat) : Int) from rfl, cut_from] at h3
    refine ⟨_, rfl, .tuple [.int md.pr.1, .int md.pr.2], .tuple [.int md.pr.1, .int md.pr.2], .tup h3 (.cons (.int _) (.cons (.int _) .nil)), Dp.sm s3 _ _ hwv, rfl, rfl, ?_⟩
    rw [show PyData.eqv (.tuple [.int md.pr.1, .int md.pr.2]) (.tuple [.int md.pr.1, .int md.pr.2]) = true by
      show ((md.pr.1 == md.pr.1) && ((md.pr.2 == md.pr.2) && true)) = true
      simp]
    exact q H3 ((s1.trans s2).trans s3)
end
end HA

/-! Names that occur once. -/
namespace HA
open PySem PySem.Spec PyProof.Rows L2 HX
section
variable {P : Program} {w : World} {K : PySem.W.Frag} {mg : Str → Option Value} {base : Heap}
def spSingles (K : PySem.W.Frag) : Sp := fun vs H Q _ => ∃ (v u : V) (c : Clm) (t : Row), vs = [v, u] ∧ Dp K H v c.d ∧ Dp K H u t.d ∧ Pr c t ∧ ∀ H', Same H H' → Q (.bl true) H'
theorem ok_singles (T : Tx K w mg) {k : Nat} : FnOk P w K mg base CX0 (k + 71) T.a__law_singles T.d__law_singles ["claim", "tree"] (spSingles K) := by
  have G__law_fitted := ok_fitted (P := P) (base := base) T (n := k + 68)
  have G_is_kind := ok_is_kind (P := P) (base := base) T (k := k + 68)
  have G__law_boxes := ok_boxes (P := P) (base := base) T (k + 68)
  have G__law_counts := ok_lcounts (P := P) (base := base) T (k + 69)
  have G__law_nested := ok_law_nested (P := P) (base := base) T (k := k + 60)
  refine T.F__law_singles.ok sc__law_singles (fun vs H Q E h => ?_) (fun cdv A outer s H vs Q E hr h => ?_)
  · obtain ⟨v, u, c, t, rfl, _⟩ := h
    rfl
  obtain ⟨v, u, c, t, rfl, hv, hu, pr, q⟩ := h
  obtain ⟨few, all, goal, tok, th, tz, td⟩ := pr
  refine ⟨_, (pss_cons (ps_for PassesOwn.never rfl (pi_tup (pe_ix ix_tup (pe_call (G__law_fitted) hr (by rfl) T.g__law_fitted T.k__law_fitted T.b__law_fitted .nil pass0 (pa_cons (pv 0) (pa_cons (pv 1) pa_nil))) pe_int (fun _ _ => rfl))) (pg_name (i := 2) sc__law_singles.nd rfl (Or.inl rfl))
      (pss_cons (ps_set (i := 3) sc__law_singles.nd rfl (Or.inl rfl) (pe_call (G_is_kind) hr (by rfl) T.g_is_kind T.k_is_kind T.b_is_kind .nil pass0 (pa_cons (pe_ix ix_tup (pv 2) pe_int (fun _ _ => rfl)) pa_nil)))
      (pss_one (ps_if (PW.pt (pw_or (pt_not (pt_val (pe_callB call_isi (by rfl) T.z_isinstance (by decide +kernel) (pa_cons (pv 3) (pa_cons (pe_bltn (v := .ty "bool") (by rfl) T.z_bool (by decide +kernel) rfl) pa_nil))))) (pw_or1 (pt_not (pt_val (pv 3))))))
        (pss_one (ps_ret pe_bl))
        pss_nil))))
    (pss_cons (ps_set (i := 4) sc__law_singles.nd rfl (Or.inl rfl) pe_dictN)
    (pss_cons (ps_expr (pe_call (G__law_boxes) hr (by rfl) T.g__law_boxes T.k__law_boxes T.b__law_boxes .nil pass0 (pa_cons (pv 1) (pa_cons (pe_lstN pa_nil) (pa_cons (pv 4) pa_nil)))))
    (pss_cons (ps_set (i := 5) sc__law_singles.nd rfl (Or.inl rfl) (pe_call (G__law_counts) hr (by rfl) T.g__law_counts T.k__law_counts T.b__law_counts .nil pass0 (pa_cons (pv 1) (pa_cons pe_int pa_nil))))
    (pss_cons (ps_lock (ps_for PassesOwn.never rfl (pi_keys (pv 4)) (pg_name (i := 6) sc__law_singles.nd rfl (Or.inl rfl))
      (pss_one (ps_if (PW.pt (pw_and (pt_cmpR op_eq (pe_callB call_len_seq (by rfl) T.z_len (by decide +kernel) (pa_cons (pe_dget (hu_of hr) (pv 4) (pv 6) (fun _ _ => rfl)) pa_nil)) pe_int (nomark _)) (pw_and1 (pt_not (pt_val (pe_call (G__law_nested) hr (by rfl) T.g__law_nested T.k__law_nested T.b__law_nested .nil pass0 (pa_cons (pe_ix ix_list (pe_dget (hu_of hr) (pv 4) (pv 6) (fun _ _ => rfl)) pe_int (fun _ _ => rfl)) (pa_cons (pe_dget (hu_of hr) (pv 5) (pv 6) (fun _ _ => rfl)) pa_nil))))))))
        (pss_one (ps_ret pe_bl))
        pss_nil))))
    (pss_one (ps_ret pe_bl))))))), ?_⟩
  refine ⟨_, rfl, _, rfl, v, u, c, t, rfl, hv, hu, by omega, tok, tz, few, fun H1 r1 s1 h1 => ?_⟩
  obtain ⟨a, b, g, xs, rfl, ha, hb, hx, hg⟩ := clm_at h1
  have lx := hx.len
  rw [List.length_map] at lx
  refine ⟨a, _, 0, .ref b, rfl, rfl, ha, atI_at (j := 0) rfl rfl, b, rfl, ⟨_, hb⟩, ?_⟩
  refine for_tup (xs := xs) (fun i σ' H' => ∃ y2 y3 : Option V, σ' = [some v, some u, y2, y3, none, none, none] ∧ H' = H1) ⟨none, none, rfl, rfl⟩ ?_ ?_ ?_
  · rintro i σ' H' _ ⟨_, _, _, rfl⟩
    exact hb
  · rintro i z σ' H' hi ⟨y2, y3, rfl, eH⟩
    have eH' := eH.symm
    subst eH'
    obtain ⟨h, hh, hz⟩ := hold_get hx hi
    obtain ⟨p, yk, s, rfl, hp, hy, hs⟩ := hold_at hz
    refine ⟨_, rfl, p, _, 1, yk, rfl, rfl, hp, atI_at (j := 1) rfl rfl, yk, h.kd, rfl, hy, fit_pos (Row.pos 0 tok) (List.mem_of_getElem? hh), ?_⟩
    refine ⟨_, rfl, _, _, _, _, _, rfl, .ty _, .base (.bl true), kit_bb, _, rfl, iteF ?_⟩
    exact ⟨_, rfl, true, rfl, iteF ⟨_, _, rfl, rfl⟩⟩
  rintro σ' H' ⟨y2, y3, rfl, eH⟩
  have eH' := eH.symm
  subst eH'
  refine fun H2 F s2 nF hF => ?_
  have s02 := s1.trans s2
  refine ⟨_, rfl, Nat.zero_le _, fun H3 b0 s3 nb0 hb0 => ⟨_, rfl, ?_⟩⟩
  have s03 := s02.trans s3
  have hF3 := s3 _ _ hF
  have b0F : b0 ∉ [F] := fun z => by
    rw [List.mem_singleton.mp z, hF] at nb0
    cases nb0
  have bx0 : BX K H3 F [] (fun _ => []) 0 := ⟨⟨[], hF3, List.nodup_nil, Nat.le_refl _, (fun k v e => by cases e), (fun x _ => rfl), (fun x y v e => by cases e)⟩, (fun L m => by cases m), (fun x => Nat.le_refl _)⟩
  refine ⟨u, t, b0, F, [], [], fun _ => [], 0, rfl, Dp.sm s03 _ _ hu, by omega, by omega, by show 0 + t.ht ≤ 1000; omega, ⟨[], hb0, .nil⟩, b0F, bx0, fun H4 Ls k4 fr4 bx4 => ?_⟩
  rw [show (fun x => ([] : List (List Kd)) ++ (occ x t).map ([] ++ ·)) = fun x => occ x t from funext fun x => by
    rw [List.nil_append]
    exact List.map_id _] at bx4
  have s04 : Same H H4 := (s1.trans (s2.trans s3)).kp k4 (s1.free nF)
  refine ⟨_, rfl, u, t, 0, rfl, Dp.sm s04 _ _ hu, by omega, tok, tz, fun H5 D5 s5 n5 c5 => ?_⟩
  have s05 := s04.trans s5
  have bx5 := bx4.sm s5
  obtain ⟨kvs, hF5, nd, lk, r1, r2, r3⟩ := bx5.dict
  obtain ⟨k5, hD5, nd5, rel5⟩ := c5
  have DF5 : D5 ≠ F := by
    obtain ⟨kv4, h4, _⟩ := bx4.dict
    exact (ne_of_none h4 n5).symm
  refine forD rfl hF5 (fun j σ' Hu => ∃ y6 : Option V, σ' = [some v, some u, y2, y3, some (.ref F), some (.ref D5), y6] ∧ Same H5 Hu) ⟨none, rfl, Same.refl _⟩ ?_ ?_
  · rintro j kx vx σ' Hl od hk hl ⟨y6, rfl, sl⟩
    have ev := valV_mem nd hk
    obtain ⟨x, ek, L, ws, el, mL, hL, ell, nel, en⟩ := r1 _ _ ev
    rw [ek] at ev hk
    subst ek
    subst el
    have LF : L ≠ F := lst_dk hL hF5
    have hLl : Hl L = some (.lst ws) := by
      have := sl _ _ hL
      rwa [upd_ne LF] at this
    have hDl : Hl D5 = some (.dK k5) := by
      have := sl _ _ hD5
      rwa [upd_ne DF5] at this
    have notF : NT [F] (upd Hl F (.dK kvs)) := NT.dict upd_same
    refine ⟨_, rfl, _, rfl, F, .ref L, rfl, .inl ⟨kvs, .inr x, .inr ⟨od, hl⟩, rfl, ev.symm⟩, L, ws, rfl, .inl (SqL.of hLl), rfl, _, rfl, iteB (fun c1 => ?_) (fun c1 => ⟨hl, _, rfl, sl⟩)⟩
    have l1 : ws.length = 1 := by
      have := V.int.inj (of_decide_eq_true c1)
      omega
    obtain ⟨w0, ew⟩ : ∃ w0, ws[0]? = some w0 := ⟨_, List.getElem?_eq_getElem (by omega)⟩
    obtain ⟨bs, eb⟩ : ∃ bs, occ x t = [bs] := List.length_eq_one_iff.mp (by rw [← ell]; exact l1)
    obtain ⟨b', e3, nb', hb'⟩ := en 0 w0 bs ew (by rw [eb]; rfl)
    subst e3
    obtain ⟨y, ey⟩ := (O1.row x t 0 tok).2 bs eb
    rw [bxs_pr] at ey
    have r5 := rel5 (.inr x)
    rw [ey] at r5
    obtain ⟨v5, ev5, t5⟩ := orel_some r5
    have b'F : b' ∉ [F] := fun z => nb' (by rw [List.mem_singleton.mp z]; exact .head _)
    have hbl : BoxAt K Hl b' bs := (hb'.sm sl).kp Kp.locked notF b'F
    have htl : TpAt K Hl v5 (y, (nestK bs).pr) := by
      obtain ⟨ta, e6, h6⟩ := t5.sm sl
      exact ⟨ta, e6, Kp.seqN Kp.locked notF h6⟩
    have gl : DGet Hl D5 (kV (.inr x)) (valV k5 (.inr x)) := DGet.k (k := .inr x) hDl
    rw [ev5] at gl
    refine ⟨_, rfl, _, rfl, F, .ref L, rfl, .inl ⟨kvs, .inr x, .inr ⟨od, hl⟩, rfl, ev.symm⟩, L, ws, 0, .ref b', rfl, rfl, SqL.of hLl, atI_at (j := 0) rfl ew, _, rfl, _, rfl, D5, v5, rfl, gl, b', v5, bs, y, rfl, hbl, fun kk mk => occ_ok x t tok bs (by rw [eb]; exact .head _) kk mk, htl, fun H6 s6 => ⟨_, rfl, iteF ⟨s6 _ _ hl, _, rfl, sl.trans s6.un⟩⟩⟩
  · rintro σ' H6 ⟨y6, rfl, s6⟩
    exact q H6 (s05.trans s6)
end
end HA

/-! Claims pooled and lifted, in plain Lean. -/
namespace HA
open PySem PySem.Spec PyProof.Rows L2 HX
theorem pair_small {c : Clm} {t : Row} (few : c.hs.length ≤ 1000) (sn : ∀ x ∈ c.hs, x.sn.d.depth ≤ 10) (g : c.goal.d.depth ≤ 12) (td : t.d.depth ≤ 85) : (Ans.told (pairD c t)).small := by
  refine ⟨?_, ?_⟩
  · show (true && (pl c.d && (pl t.d && true))) = true
    rw [pl_clm few, pl_row]; rfl
  · have := clm_dep sn g
    simp only [pairD, PyData.depth, PyData.depthAll]
    omega
theorem kind_nm (x : Str) (k : Kd) (h : Hold) : (h.kind x k).nm = h.nm := by
  unfold Hold.kind
  split
  · next e => exact e.symm
  · rfl
theorem kind_sn (x : Str) (k : Kd) (h : Hold) : (h.kind x k).sn = h.sn := by
  unfold Hold.kind
  split <;> rfl
theorem plus_pos {a b k : Kd} (ha : a.pos) (hb : b.pos) (e : a.plus b = some k) : k.pos := by
  cases a with
  | once => cases e
  | st n d => cases b with
    | once => cases e
    | st m f =>
      cases e
      exact ⟨by have := ha.1; have := hb.1; omega, by have := ha.2; have := hb.2; omega⟩
theorem joint_of {c : Clm} {x y : Str} {k : Kd} (e : c.joint x y = some k) : ∃ g h, c.row x = some g ∧ c.row y = some h ∧ x ≠ y ∧ g.sn = h.sn ∧ g.kd.plus h.kd = some k := by
  unfold Clm.joint at e
  cases ex : c.row x with
  | none => rw [ex] at e; cases e
  | some g => cases ey : c.row y with
    | none => rw [ex, ey] at e; cases e
    | some h =>
      rw [ex, ey] at e
      dsimp only at e
      by_cases n : x = y ∨ g.sn ≠ h.sn
      · rw [if_pos n] at e; cases e
      · rw [if_neg n] at e
        exact ⟨g, h, rfl, rfl, fun z => n (.inl z), Classical.byContradiction fun z => n (.inr z), e⟩
theorem joint_to {c : Clm} {x y : Str} {k : Kd} {g h : Hold} (ex : c.row x = some g) (ey : c.row y = some h) (ne : x ≠ y) (es : g.sn = h.sn) (e : g.kd.plus h.kd = some k) : c.joint x y = some k := by
  unfold Clm.joint
  rw [ex, ey]
  dsimp only
  rw [if_neg fun z => z.elim ne fun w => w es]
  exact e
theorem poolA_told {c : Clm} {t : Row} {x y : Str} {d : PyData} (e : poolA c t x y = .told d) : ∃ k, c.joint x y = some k ∧ d = pairD (c.pool x y k) (t.mv 0 0 (ren1 y (.inr x))) := by
  unfold poolA at e
  cases ex : c.row x with
  | none => rw [ex] at e; cases e
  | some g => cases ey : c.row y with
    | none => rw [ex, ey] at e; cases e
    | some h =>
      rw [ex, ey] at e
      dsimp only at e
      cases ej : c.joint x y with
      | none => rw [ej] at e; cases e
      | some k => rw [ej] at e; cases e; exact ⟨k, rfl, rfl⟩
theorem poolA_of {c : Clm} {t : Row} {x y : Str} {k : Kd} (e : c.joint x y = some k) : poolA c t x y = .told (pairD (c.pool x y k) (t.mv 0 0 (ren1 y (.inr x)))) := by
  obtain ⟨g, h, ex, ey, _⟩ := joint_of e
  unfold poolA
  rw [ex, ey]
  dsimp only
  rw [e]
theorem liftA_told {c : Clm} {t : Row} {x : Str} {d : PyData} (e : liftA c t x = .told d) : ∃ h, c.row x = some h ∧ d = pairD (c.lift x h) (liftR t x) := by
  unfold liftA at e
  cases ex : c.row x with
  | none => rw [ex] at e; cases e
  | some h => rw [ex] at e; cases e; exact ⟨h, rfl, rfl⟩
theorem Pr.mv {c : Clm} {t : Row} (p : Pr c t) (ρ : Ren) : Pr c (t.mv 0 0 ρ) := ⟨p.few, p.all, p.goal, Row.ok_mv p.tok, by rw [Row.mv_ht]; exact p.th, by rw [Row.mv_sz]; exact p.tz, by rw [Row.mv_depth]; exact p.td⟩
theorem Pr.pool {c : Clm} {t : Row} {x y : Str} {k : Kd} (p : Pr c t) (e : c.joint x y = some k) : Pr (c.pool x y k) t := by
  obtain ⟨g, h, ex, ey, _, _, ep⟩ := joint_of e
  have kp := plus_pos (p.all g (row_mem ex).1).2 (p.all h (row_mem ey).1).2 ep
  refine ⟨?_, fun o m => ?_, p.goal, p.tok, p.th, p.tz, p.td⟩
  · show ((c.without y).map (Hold.kind x k)).length ≤ 30
    rw [List.length_map]
    exact Nat.le_trans (List.length_filter_le _ _) p.few
  · obtain ⟨o', m', rfl⟩ := List.mem_map.mp m
    have po := p.all o' (List.mem_filter.mp m').1
    rw [kind_sn]
    refine ⟨po.1, ?_⟩
    unfold Hold.kind
    split
    · exact kp
    · exact po.2
theorem Pr.lift {c : Clm} {t : Row} {x : Str} {h : Hold} (p : Pr c t) (e : c.row x = some h) (g : c.goal.d.depth ≤ 11) (th : t.ht ≤ 64) (tz : t.sz ≤ 1999) (td : t.d.depth ≤ 79) : Pr (c.lift x h) (liftR t x) := by
  have ph := p.all h (row_mem e).1
  have kd := kd_dep h.kd
  refine ⟨Nat.le_trans (List.length_filter_le _ _) p.few, fun o m => p.all o (List.mem_filter.mp m).1, ?_, Row.ok_mv (t := t) p.tok, ?_, ?_, ?_⟩
  · show (Sn.d (.trade h.kd h.sn c.goal)).depth ≤ 12
    have := ph.1.2
    simp only [Sn.d, PyData.depth, PyData.depthAll]
    omega
  · show (t.mv 0 1 (ren1 x (.inl 0))).ht + 1 ≤ 65
    rw [Row.mv_ht]; omega
  · show (t.mv 0 1 (ren1 x (.inl 0))).sz + 1 ≤ 2000
    rw [Row.mv_sz]; omega
  · show (PyData.tuple [.str "take", (t.mv 0 1 (ren1 x (.inl 0))).d]).depth ≤ 80
    have := Row.mv_depth 0 1 (ren1 x (.inl 0)) t
    simp only [PyData.depth, PyData.depthAll]
    omega
theorem small_pool {c : Clm} {t : Row} (x y : Str) (p : Pr c t) : (poolA c t x y).small := by
  cases e : poolA c t x y with
  | unknown z => trivial
  | room z => trivial
  | told d =>
    obtain ⟨k, ej, rfl⟩ := poolA_told e
    have q := p.pool ej
    exact pair_small (Nat.le_trans q.few (by decide)) (fun o m => (q.all o m).1.2) q.goal (by rw [Row.mv_depth]; have := q.td; omega)
theorem small_lift {c : Clm} {t : Row} (x : Str) (p : Pr c t) (g : c.goal.d.depth ≤ 11) : (liftA c t x).small := by
  cases e : liftA c t x with
  | unknown z => trivial
  | room z => trivial
  | told d =>
    obtain ⟨h, er, rfl⟩ := liftA_told e
    have ph := p.all h (row_mem er).1
    have kd := kd_dep h.kd
    refine pair_small (Nat.le_trans (List.length_filter_le _ _) (Nat.le_trans p.few (by decide))) (fun o m => (p.all o (List.mem_filter.mp m).1).1.2) ?_ ?_
    · show (Sn.d (.trade h.kd h.sn c.goal)).depth ≤ 12
      have := ph.1.2
      simp only [Sn.d, PyData.depth, PyData.depthAll]
      omega
    · show (PyData.tuple [.str "take", (t.mv 0 1 (ren1 x (.inl 0))).d]).depth ≤ 85
      have := Row.mv_depth 0 1 (ren1 x (.inl 0)) t
      have := p.td
      simp only [PyData.depth, PyData.depthAll]
      omega
theorem small_wide {c : Clm} (x : Str) (k : Kd) (few : c.hs.length ≤ 1000) (sn : ∀ h ∈ c.hs, h.sn.d.depth ≤ 10) (g : c.goal.d.depth ≤ 12) : (wideA c x k).small := by
  unfold wideA
  cases e : c.row x with
  | none => trivial
  | some h =>
    dsimp only
    split
    · refine ⟨pl_clm (by show (c.hs.map _).length ≤ 1000; rw [List.length_map]; exact few), ?_⟩
      have := clm_dep (c := ⟨c.hs.map (Hold.kind x k), c.goal⟩) (fun o m => by
        obtain ⟨o', m', rfl⟩ := List.mem_map.mp m
        rw [kind_sn]
        exact sn o' m') g
      omega
    · trivial
/-! three ways -/
theorem row_pool (x y z : Str) (k : Kd) (g g' : Sn) (nz : z ≠ y) : ∀ l : List Hold, Clm.row ⟨(l.filter fun h => decide (h.nm ≠ y)).map (Hold.kind x k), g⟩ z = (Clm.row ⟨l, g'⟩ z).map (Hold.kind x k)
  | [] => rfl
  | h :: l => by
    rw [row_cons]
    by_cases c : h.nm = y
    · rw [List.filter_cons, if_neg (by simp [c]), row_pool x y z k g g' nz l, if_neg fun e => nz (e.symm.trans c)]
    · rw [List.filter_cons, if_pos (by simp [c]), List.map_cons, row_cons, kind_nm, row_pool x y z k g g' nz l]
      by_cases e : h.nm = z
      · rw [if_pos e, if_pos e]; rfl
      · rw [if_neg e, if_neg e]
theorem pool_row {c : Clm} {x y z : Str} {k : Kd} (nz : z ≠ y) : (c.pool x y k).row z = (c.row z).map (Hold.kind x k) := row_pool x y z k _ _ nz c.hs
theorem filt_map (x y : Str) (k : Kd) (l : List Hold) : (l.map (Hold.kind x k)).filter (fun h => decide (h.nm ≠ y)) = (l.filter fun h => decide (h.nm ≠ y)).map (Hold.kind x k) := by
  rw [List.filter_map]
  congr 1
  refine List.filter_congr fun h _ => ?_
  show decide ((h.kind x k).nm ≠ y) = _
  rw [kind_nm]
theorem kind_kind (x : Str) (k k' : Kd) (h : Hold) : (h.kind x k).kind x k' = h.kind x k' := by
  unfold Hold.kind
  by_cases e : h.nm = x
  · rw [if_pos e, if_pos rfl, if_pos e]
  · rw [if_neg e, if_neg e]
theorem filt_comm (y z : Str) (l : List Hold) : (l.filter fun h => decide (h.nm ≠ y)).filter (fun h => decide (h.nm ≠ z)) = (l.filter fun h => decide (h.nm ≠ z)).filter fun h => decide (h.nm ≠ y) := by
  rw [List.filter_filter, List.filter_filter]
  exact List.filter_congr fun h _ => Bool.and_comm _ _
/-- where the holds end -/
noncomputable def hs3 (c : Clm) (a b d : Str) (k : Kd) : Clm := ⟨((c.hs.filter fun h => decide (h.nm ≠ b)).filter fun h => decide (h.nm ≠ d)).map (Hold.kind a k), c.goal⟩
theorem pool2 (c : Clm) (a b d : Str) (k k' : Kd) : (c.pool a b k).pool a d k' = hs3 c a b d k' := by
  show Clm.mk ((((c.hs.filter fun h => decide (h.nm ≠ b)).map (Hold.kind a k)).filter fun h => decide (h.nm ≠ d)).map (Hold.kind a k')) c.goal = _
  rw [filt_map, List.map_map]
  unfold hs3
  congr 1
  exact List.map_congr_left fun h _ => kind_kind a k k' h
theorem pool2' (c : Clm) (a b d : Str) (k k' : Kd) : (c.pool a d k).pool a b k' = hs3 c a b d k' := by
  rw [pool2]
  unfold hs3
  rw [filt_comm]
theorem pool3 (c : Clm) (a b d : Str) (k k' : Kd) : (c.pool b d k).pool a b k' = hs3 c a b d k' := by
  show Clm.mk ((((c.hs.filter fun h => decide (h.nm ≠ d)).map (Hold.kind b k)).filter fun h => decide (h.nm ≠ b)).map (Hold.kind a k')) c.goal = _
  rw [filt_map, List.map_map]
  unfold hs3
  rw [filt_comm]
  congr 1
  refine List.map_congr_left fun h m => ?_
  have ne : h.nm ≠ b := of_decide_eq_true (List.mem_filter.mp (List.mem_filter.mp m).1).2
  show (h.kind b k).kind a k' = _
  rw [show h.kind b k = h by unfold Hold.kind; rw [if_neg ne]]
theorem ren_to (y : Str) (z r : Key) : Ren.to (ren1 y z) r = if r = .inr y then z else r := by
  unfold Ren.to Ren.look ren1
  rw [List.find?_cons, List.find?_nil]
  by_cases e : r = .inr y
  · rw [if_pos e, decide_eq_true e.symm]; rfl
  · rw [if_neg e, decide_eq_false fun z => e z.symm]; rfl
theorem mv_ren (y : Str) (z r : Key) : mvRef 0 0 (ren1 y z) r = if r = .inr y then z else r := by
  cases r with
  | inl i =>
    rw [if_neg (by intro z; cases z)]
    show (if i ≥ 0 then Sum.inl (i + 0 - 0) else Ren.to (ren1 y z) (.inl i)) = _
    by_cases h : i ≥ 0
    · rw [if_pos h, Int.add_zero, Int.sub_zero]
    · rw [if_neg h, ren_to, if_neg (by intro z; cases z)]
  | inr x => exact ren_to y z _
def rho3 (a b d : Str) : Ren := [(.inr b, .inr a), (.inr d, .inr a)]
theorem rho_to (a b d : Str) (r : Key) : Ren.to (rho3 a b d) r = if r = .inr b ∨ r = .inr d then .inr a else r := by
  unfold Ren.to Ren.look rho3
  rw [List.find?_cons]
  by_cases e : r = .inr b
  · rw [if_pos (.inl e), decide_eq_true e.symm]; rfl
  · rw [decide_eq_false fun z => e z.symm]
    dsimp only
    rw [List.find?_cons]
    by_cases e2 : r = .inr d
    · rw [if_pos (.inr e2), decide_eq_true e2.symm]; rfl
    · rw [if_neg fun z => z.elim e e2, decide_eq_false fun z => e2 z.symm]; rfl
theorem mv_rho (a b d : Str) (r : Key) : mvRef 0 0 (rho3 a b d) r = if r = .inr b ∨ r = .inr d then .inr a else r := by
  cases r with
  | inl i =>
    rw [if_neg (by intro z; rcases z with z | z <;> cases z)]
    show (if i ≥ 0 then Sum.inl (i + 0 - 0) else Ren.to (rho3 a b d) (.inl i)) = _
    by_cases h : i ≥ 0
    · rw [if_pos h, Int.add_zero, Int.sub_zero]
    · rw [if_neg h, rho_to, if_neg (by intro z; rcases z with z | z <;> cases z)]
  | inr x => exact rho_to a b d _
theorem inr_ne {a b : Str} (h : a ≠ b) : (.inr a : Key) ≠ .inr b := fun z => h (Sum.inr.inj z)
section
variable {a b d : Str} (ab : a ≠ b) (ad : a ≠ d) (bd : b ≠ d) (t : Row)
include ab ad bd
theorem tr1 : (t.mv 0 0 (ren1 b (.inr a))).mv 0 0 (ren1 d (.inr a)) = t.mv 0 0 (rho3 a b d) := Row.mv_mv t fun r _ => by
  rw [mv_ren, mv_ren, mv_rho]
  by_cases e : r = .inr b
  · rw [if_pos e, if_neg (inr_ne ad), if_pos (.inl e)]
  · rw [if_neg e]
    by_cases e2 : r = .inr d
    · rw [if_pos e2, if_pos (.inr e2)]
    · rw [if_neg e2, if_neg fun z => z.elim e e2]
theorem tr2 : (t.mv 0 0 (ren1 d (.inr a))).mv 0 0 (ren1 b (.inr a)) = t.mv 0 0 (rho3 a b d) := Row.mv_mv t fun r _ => by
  rw [mv_ren, mv_ren, mv_rho]
  by_cases e : r = .inr d
  · rw [if_pos e, if_neg (inr_ne ab), if_pos (.inr e)]
  · rw [if_neg e]
    by_cases e2 : r = .inr b
    · rw [if_pos e2, if_pos (.inl e2)]
    · rw [if_neg e2, if_neg fun z => z.elim e2 e]
theorem tr3 : (t.mv 0 0 (ren1 d (.inr b))).mv 0 0 (ren1 b (.inr a)) = t.mv 0 0 (rho3 a b d) := Row.mv_mv t fun r _ => by
  rw [mv_ren, mv_ren, mv_rho]
  by_cases e : r = .inr d
  · rw [if_pos e, if_pos rfl, if_pos (.inr e)]
  · rw [if_neg e]
    by_cases e2 : r = .inr b
    · rw [if_pos e2, if_pos (.inl e2)]
    · rw [if_neg e2, if_neg fun z => z.elim e2 e]
end
/-- two holds made one, and again -/
def Road (c : Clm) (t : Row) (p q : Str × Str) (C : Clm) (T : Row) : Prop := ∃ c1 t1, poolA c t p.1 p.2 = .told (pairD c1 t1) ∧ Pr c1 t1 ∧ poolA c1 t1 q.1 q.2 = .told (pairD C T) ∧ Pr C T
theorem roads {c : Clm} {t : Row} {a b d : Str} {g : List Str} (p : Pr c t) (gr : Grp c g) (ma : a ∈ g) (mb : b ∈ g) (md : d ∈ g) (ab : a ≠ b) (ad : a ≠ d) (bd : b ≠ d) :
    ∃ C T, Road c t (a, b) (a, d) C T ∧ Road c t (a, d) (a, b) C T ∧ Road c t (b, d) (a, b) C T := by
  obtain ⟨_, sn, all⟩ := gr
  have stock : ∀ x ∈ g, ∃ h n k, c.row x = some h ∧ h.nm = x ∧ h.kd = .st n k ∧ h.sn = sn := fun x m => by
    obtain ⟨h, e1, e2, e3⟩ := all x m
    cases ek : h.kd with
    | once => exact absurd ek e2
    | st n k => exact ⟨h, n, k, e1, (row_mem e1).2, ek, e3⟩
  obtain ⟨ha, na, ka, ra, an, eka, sa⟩ := stock a ma
  obtain ⟨hb, nb, kb, rb, bn, ekb, sb⟩ := stock b mb
  obtain ⟨hd, nd, kd, rd, dn, ekd, sd⟩ := stock d md
  have two : ∀ {c' : Clm} {x y : Str} {g h : Hold} {n k m j : Int}, c'.row x = some g → c'.row y = some h → x ≠ y → g.sn = h.sn → g.kd = .st n k → h.kd = .st m j → c'.joint x y = some (.st (n + m) (max k j)) := fun e1 e2 ne es ek1 ek2 => joint_to e1 e2 ne es (by rw [ek1, ek2]; rfl)
  have kx : ∀ {x : Str} {k : Kd} {h : Hold}, h.nm = x → h.kind x k = ⟨x, k, h.sn⟩ := fun e => by unfold Hold.kind; rw [if_pos e]
  have ky : ∀ {x : Str} {k : Kd} {h : Hold}, ¬ h.nm = x → h.kind x k = h := fun e => by unfold Hold.kind; rw [if_neg e]
  have step : ∀ {c' : Clm} {t' : Row} {x y : Str} {k : Kd}, Pr c' t' → c'.joint x y = some k → poolA c' t' x y = .told (pairD (c'.pool x y k) (t'.mv 0 0 (ren1 y (.inr x)))) ∧ Pr (c'.pool x y k) (t'.mv 0 0 (ren1 y (.inr x))) := fun pr e => ⟨poolA_of e, (pr.pool e).mv _⟩
  refine ⟨hs3 c a b d (.st (na + nb + nd) (max (max ka kb) kd)), t.mv 0 0 (rho3 a b d), ?_, ?_, ?_⟩
  · have j1 := two ra rb ab (sa.trans sb.symm) eka ekb
    obtain ⟨e1, p1⟩ := step p j1
    have r1 : (c.pool a b (.st (na + nb) (max ka kb))).row a = some ⟨a, .st (na + nb) (max ka kb), ha.sn⟩ := by rw [pool_row ab, ra, Option.map_some, kx an]
    have r2 : (c.pool a b (.st (na + nb) (max ka kb))).row d = some hd := by rw [pool_row bd.symm, rd, Option.map_some, ky (by rw [dn]; exact ad.symm)]
    have j2 := two r1 r2 ad (sa.trans sd.symm) rfl ekd
    obtain ⟨e2, p2⟩ := step p1 j2
    rw [pool2, tr1 ab ad bd] at e2 p2
    exact ⟨_, _, e1, p1, e2, p2⟩
  · have j1 := two ra rd ad (sa.trans sd.symm) eka ekd
    obtain ⟨e1, p1⟩ := step p j1
    have r1 : (c.pool a d (.st (na + nd) (max ka kd))).row a = some ⟨a, .st (na + nd) (max ka kd), ha.sn⟩ := by rw [pool_row ad, ra, Option.map_some, kx an]
    have r2 : (c.pool a d (.st (na + nd) (max ka kd))).row b = some hb := by rw [pool_row bd, rb, Option.map_some, ky (by rw [bn]; exact ab.symm)]
    have j2 := two r1 r2 ab (sa.trans sb.symm) rfl ekb
    obtain ⟨e2, p2⟩ := step p1 j2
    rw [pool2', tr2 ab ad bd, show na + nd + nb = na + nb + nd by omega, show max (max ka kd) kb = max (max ka kb) kd by omega] at e2 p2
    exact ⟨_, _, e1, p1, e2, p2⟩
  · have j1 := two rb rd bd (sb.trans sd.symm) ekb ekd
    obtain ⟨e1, p1⟩ := step p j1
    have r1 : (c.pool b d (.st (nb + nd) (max kb kd))).row b = some ⟨b, .st (nb + nd) (max kb kd), hb.sn⟩ := by rw [pool_row bd, rb, Option.map_some, kx bn]
    have r2 : (c.pool b d (.st (nb + nd) (max kb kd))).row a = some ha := by rw [pool_row ad, ra, Option.map_some, ky (by rw [an]; exact ab)]
    have j2 := two r2 r1 ab (sa.trans sb.symm) eka rfl
    obtain ⟨e2, p2⟩ := step p1 j2
    rw [pool3, tr3 ab ad bd, show na + (nb + nd) = na + nb + nd by omega, show max ka (max kb kd) = max (max ka kb) kd by omega] at e2 p2
    exact ⟨_, _, e1, p1, e2, p2⟩
end HA

/-! Pairs of names; joinings. -/
namespace HA
open PySem PySem.Spec PyProof.Rows L2 HX
theorem kit_lt {K : PySem.W.Frag} : PySem.W.kitOne K (.type "list") (.type "tuple") = some false := kit_ty (by decide +kernel)
theorem DueAt.split {K : PySem.W.Frag} {H : Hp} {r : V} {a : Ans} (h : DueAt K H r a) : (∃ d p w, a = .told d ∧ r = .ref p ∧ SqT K H p [.str "told", w] ∧ Dp K H w d) ∨ ((∀ d, a ≠ .told d) ∧ ∃ p xs, r = .ref p ∧ SqL K H p xs) := by
  cases a with
  | told d => obtain ⟨p, w, e, h1, h2⟩ := h; exact .inl ⟨d, p, w, rfl, e, h1, h2⟩
  | unknown z => obtain ⟨p, e, h1⟩ := h; exact .inr ⟨fun d z => (by cases z), p, _, e, h1⟩
  | room z => obtain ⟨p, e, h1⟩ := h; exact .inr ⟨fun d z => (by cases z), p, _, e, h1⟩
theorem pair_at {K : PySem.W.Frag} {H : Hp} {v : V} {c : Clm} {t : Row} (h : Dp K H v (pairD c t)) : ∃ p x y, v = .ref p ∧ SqT K H p [x, y] ∧ Dp K H x c.d ∧ Dp K H y t.d := by
  obtain ⟨p, xs, rfl, hs, hx⟩ := Dp.tup_inv h
  obtain ⟨x, xs, rfl, h1, hx⟩ := dc1 hx
  obtain ⟨y, xs, rfl, h2, hx⟩ := dc1 hx
  obtain rfl := dc0 hx
  exact ⟨p, x, y, rfl, hs, h1, h2⟩
namespace StE
variable {K : PySem.W.Frag} {H H' : Hp} {S l Nm G : Addr} {names group : List Str} {vc vt : V} {c : Clm} {t : Row} {times : Nat}
theorem gPool (st : StE K H S l Nm G names group vc vt c t times) : DGet H S (.str "pool") (some (.ref l)) := by
  obtain ⟨kvs, h, e1, e2, e3, e4, e5, e6⟩ := st.dict
  rw [← e1]; exact DGet.k (k := .inr "pool") h
theorem gNames (st : StE K H S l Nm G names group vc vt c t times) : DGet H S (.str "names") (some (.ref Nm)) := by
  obtain ⟨kvs, h, e1, e2, e3, e4, e5, e6⟩ := st.dict
  rw [← e2]; exact DGet.k (k := .inr "names") h
theorem gGroup (st : StE K H S l Nm G names group vc vt c t times) : DGet H S (.str "group") (some (.ref G)) := by
  obtain ⟨kvs, h, e1, e2, e3, e4, e5, e6⟩ := st.dict
  rw [← e3]; exact DGet.k (k := .inr "group") h
theorem gClaim (st : StE K H S l Nm G names group vc vt c t times) : DGet H S (.str "claim") (some vc) := by
  obtain ⟨kvs, h, e1, e2, e3, e4, e5, e6⟩ := st.dict
  rw [← e4]; exact DGet.k (k := .inr "claim") h
theorem gTree (st : StE K H S l Nm G names group vc vt c t times) : DGet H S (.str "tree") (some vt) := by
  obtain ⟨kvs, h, e1, e2, e3, e4, e5, e6⟩ := st.dict
  rw [← e5]; exact DGet.k (k := .inr "tree") h
theorem gTimes (st : StE K H S l Nm G names group vc vt c t times) : DGet H S (.str "times") (some (.int (times : Int))) := by
  obtain ⟨kvs, h, e1, e2, e3, e4, e5, e6⟩ := st.dict
  rw [← e6]; exact DGet.k (k := .inr "times") h
theorem pr (st : StE K H S l Nm G names group vc vt c t times) : Pr c t := ⟨st.few, fun h m => ⟨(st.dr.hold h m).2.2, (st.dr.hold h m).2.1.ps⟩, Nat.le_trans st.dr.goal (by decide), st.tok, Nat.le_trans st.th (by decide), Nat.le_trans st.tz (by decide), Nat.le_trans st.td (by decide)⟩
end StE
def PairsAt (K : PySem.W.Frag) (H : Hp) (ws : List V) : Prop := ∀ w ∈ ws, ∃ a x y, w = .ref a ∧ SqT K H a [.str x, .str y]
theorem PairsAt.sm {K : PySem.W.Frag} {H H' : Hp} {ws : List V} (s : Same H H') (h : PairsAt K H ws) : PairsAt K H' ws := fun w m => by
  obtain ⟨a, x, y, e, h⟩ := h w m
  exact ⟨a, x, y, e, s.seqT h⟩
theorem PairsAt.kp {K : PySem.W.Frag} {H H' : Hp} {S : List Addr} {ws : List V} (k : Kp S H H') (nt : NT S H) (h : PairsAt K H ws) : PairsAt K H' ws := fun w m => by
  obtain ⟨a, x, y, e, h⟩ := h w m
  exact ⟨a, x, y, e, Kp.seqN k nt h⟩
section
variable {P : Program} {w : World} {K : PySem.W.Frag} {mg : Str → Option Value} {base : Heap}
def spPairs (K : PySem.W.Frag) : Sp := fun vs H Q _ => ∃ (S l Nm G : Addr) (names group : List Str) (vc vt : V) (c : Clm) (t : Row) (times : Nat), vs = [.ref S] ∧ StE K H S l Nm G names group vc vt c t times ∧
  ∀ H' p ws, Kp [l] H H' → Pool H' l → H' p = some (.lst ws) → PairsAt K H' ws → Q (.ref p) H'
theorem ok_pairs (T : Tx K w mg) {k : Nat} : FnOk P w K mg base CX0 (k + 2) T.a__law_pairs T.d__law_pairs ["state"] (spPairs K) := by
  have G__law_next := ok_next (P := P) (base := base) T (k := k)
  refine T.F__law_pairs.ok sc__law_pairs (fun vs H Q E h => ?_) (fun cdv A outer s H vs Q E hr h => ?_)
  · obtain ⟨S, l, Nm, G, names, group, vc, vt, c, t, times, rfl, _⟩ := h
    rfl
  obtain ⟨S, l, Nm, G, names, group, vc, vt, c, t, times, rfl, st, q⟩ := h
  have n0 := st.n0
  have nz := st.nz
  have tm := st.tm
  refine ⟨_, (pss_cons (ps_set (i := 1) sc__law_pairs.nd rfl (Or.inl rfl) (pe_dget (hu_of hr) (pv 0) pe_str (fun _ _ => rfl)))
    (pss_cons (ps_set (i := 2) sc__law_pairs.nd rfl (Or.inl rfl) (pe_dget (hu_of hr) (pv 0) pe_str (fun _ _ => rfl)))
    (pss_cons (ps_set (i := 3) sc__law_pairs.nd rfl (Or.inl rfl) (pe_dget (hu_of hr) (pv 0) pe_str (fun _ _ => rfl)))
    (pss_cons (ps_set (i := 4) sc__law_pairs.nd rfl (Or.inl rfl) (pe_lstN pa_nil))
    (pss_cons (ps_for PassesOwn.never rfl (pi_range1 (by rfl) T.z_range (pa_cons (pe_dget (hu_of hr) (pv 0) pe_str (fun _ _ => rfl)) pa_nil)) (pg_name (i := 5) sc__law_pairs.nd rfl (Or.inl rfl))
      (pss_cons (ps_set (i := 6) sc__law_pairs.nd rfl (Or.inl rfl) (pe_ix ix_list (pv 2) (pe_call (G__law_next) hr (by rfl) T.g__law_next T.k__law_next T.b__law_next .nil pass0 (pa_cons (pv 1) (pa_cons (pe_callB call_len_seq (by rfl) T.z_len (by decide +kernel) (pa_cons (pv 2) pa_nil)) pa_nil))) (fun _ _ => rfl)))
      (pss_one (ps_expr (pe_bm PySem.F.plainAttrs_list PySem.F.slot_list_append PySem.F.type_list_append mt_append (pv 4) (pa_cons (pe_tupN (pa_cons (pv 6) (pa_cons (pe_ix ix_list (pv 2) (pe_call (G__law_next) hr (by rfl) T.g__law_next T.k__law_next T.b__law_next .nil pass0 (pa_cons (pv 1) (pa_cons (pe_callB call_len_seq (by rfl) T.z_len (by decide +kernel) (pa_cons (pv 2) pa_nil)) pa_nil))) (fun _ _ => rfl)) pa_nil))) pa_nil))))))
    (C8.pss_cut (ps_if (pt_cmpR op_gt (pe_callB call_len_seq (by rfl) T.z_len (by decide +kernel) (pa_cons (pv 3) pa_nil)) pe_int (nomark _))
      (pss_one (ps_set (i := 4) sc__law_pairs.nd rfl (Or.inl rfl) (pe_op op_catL (pv 4) (pe_lstN (pa_cons (pe_tupN (pa_cons (pe_ix ix_list (pv 3) pe_int (fun _ _ => rfl)) (pa_cons (pe_ix ix_list (pv 3) pe_int (fun _ _ => rfl)) pa_nil))) (pa_cons (pe_tupN (pa_cons (pe_ix ix_list (pv 3) pe_int (fun _ _ => rfl)) (pa_cons (pe_ix ix_list (pv 3) pe_int (fun _ _ => rfl)) pa_nil))) (pa_cons (pe_tupN (pa_cons (pe_ix ix_list (pv 3) pe_int (fun _ _ => rfl)) (pa_cons (pe_ix ix_list (pv 3) pe_int (fun _ _ => rfl)) pa_nil))) pa_nil)))))))
      pss_nil)
    (pss_one (ps_ret (pv 4))))))))), ?_⟩
  refine ⟨_, rfl, S, .ref l, rfl, st.gPool, _, rfl, S, .ref Nm, rfl, st.gNames, _, rfl, S, .ref G, rfl, st.gGroup, Nat.zero_le _, fun H1 L s1 nL hL => ?_⟩
  have st1 := st.sm s1
  have lL : l ≠ L := pool_ne (names := []) st1.pool hL
  refine ⟨_, rfl, S, .int (times : Int), rfl, st1.gTimes, (times : Int), rfl, by omega, by omega, ?_⟩
  refine for_range (fun i σ' H' => ∃ (y5 y6 : Option V) (ws : List V), σ' = [some (.ref S), some (.ref l), some (.ref Nm), some (.ref G), some (.ref L), y5, y6] ∧ Kp [l] H H' ∧ Pool H' l ∧ H' L = some (.lst ws) ∧ PairsAt K H' ws ∧ ws.length = i)
    ⟨none, none, [], rfl, Kp.of s1, st1.pool, hL, (fun w m => by cases m), rfl⟩ ?_ ?_
  · rintro i σ' H2 hi ⟨y5, y6, ws, rfl, k2, p2, hL2, pa, lw⟩
    have hN2 := kS st.pool k2 st.hn
    refine ⟨_, rfl, _, rfl, _, rfl, Nm, _, rfl, .inl (SqL.of hN2), l, _, rfl, p2, by rw [List.length_map]; omega, by rw [List.length_map]; omega, fun d H3 d0 d1 k3 p3 => ?_⟩
    have hN3 := kS p2 k3 hN2
    obtain ⟨x, _, hx⟩ := draw_at d0 d1
    refine ⟨Nm, _, d, .str x, rfl, rfl, SqL.of hN3, hx, ?_⟩
    have hL3 := k3 _ _ (lone lL.symm) hL2
    refine ⟨_, rfl, .inl ⟨rfl, _, SqL.of hL3⟩, _, rfl, _, rfl, _, rfl, _, rfl, Nm, _, rfl, .inl (SqL.of hN3), l, _, rfl, p3, by rw [List.length_map]; omega, by rw [List.length_map]; omega, fun e H4 e0 e1 k4 p4 => ?_⟩
    have hN4 := kS p3 k4 hN3
    obtain ⟨y, _, hy⟩ := draw_at e0 e1
    have hL4 := k4 _ _ (lone lL.symm) hL3
    refine ⟨Nm, _, e, .str y, rfl, rfl, SqL.of hN4, hy, (by show 2 ≤ 1000; decide), fun H5 a s5 na ha => ?_⟩
    have hL5 := s5 _ _ hL4
    have k25 : Kp [l] H2 H5 := (k3.trans k4).trans (Kp.of s5)
    refine ⟨L, ws, _, rfl, rfl, hL5, sz_lt (by omega), ?_⟩
    have ntL : NT [L] H5 := fun b m o e => by
      rw [List.mem_singleton.mp m, hL5] at e
      cases e
      exact ⟨fun xs z => (by cases z), fun ob xs z => (by cases z)⟩
    have kL : Kp [L] H5 (upd H5 L (.lst (ws ++ [.ref a]))) := Kp.wr (.head _)
    refine ⟨_, _, _, rfl, (k2.trans k25).mut nL, (p4.kp (S := []) (by simp) (Kp.of s5)).kp (S := [L]) (lone lL) kL, upd_same, all_snoc (((pa.kp k25 p2.nt)).kp kL ntL) ⟨a, x, y, rfl, Kp.seqN kL ntL (SqT.of ha)⟩, ?_⟩
    rw [List.length_append]
    show ws.length + 1 = _
    omega
  · rintro σ' H2 ⟨y5, y6, ws, rfl, k2, p2, hL2, pa, lw⟩
    have hG2 := kS st.pool k2 st.hg
    refine ⟨fun σ' H' => ∃ (L' : Addr) (ws' : List V), σ' = [some (.ref S), some (.ref l), some (.ref Nm), some (.ref G), some (.ref L'), y5, y6] ∧ Same H2 H' ∧ H' L' = some (.lst ws') ∧ PairsAt K H' ws', ?_, ?_⟩
    · refine ⟨_, rfl, G, _, rfl, .inl (SqL.of hG2), _, _, rfl, rfl, _, rfl, iteB (fun c1 => ?_) (fun c1 => ⟨L, ws, rfl, Same.refl _, hL2, pa⟩)⟩
      have g2 : 1 < group.length := by
        have : (1 : Int) < ((group.map V.str).length : Nat) := of_decide_eq_true c1
        rw [List.length_map] at this
        omega
      obtain ⟨g0, e0⟩ : ∃ g0, group[0]? = some g0 := ⟨_, List.getElem?_eq_getElem (by omega)⟩
      obtain ⟨g1, e1⟩ : ∃ g1, group[1]? = some g1 := ⟨_, List.getElem?_eq_getElem (by omega)⟩
      have at0 : atI (group.map V.str) 0 = some (.str g0) := atI_at (j := 0) rfl (by rw [List.getElem?_map, e0]; rfl)
      have at1 : atI (group.map V.str) 1 = some (.str g1) := atI_at (j := 1) rfl (by rw [List.getElem?_map, e1]; rfl)
      refine ⟨_, rfl, _, rfl, G, _, 0, .str g0, rfl, rfl, SqL.of hG2, at0, _, rfl, G, _, 1, .str g1, rfl, rfl, SqL.of hG2, at1, (by show 2 ≤ 1000; decide), fun H3 a3 s3 n3 h3 => ?_⟩
      refine ⟨_, rfl, G, _, 1, .str g1, rfl, rfl, SqL.of (s3 _ _ hG2), at1, _, rfl, G, _, 0, .str g0, rfl, rfl, SqL.of (s3 _ _ hG2), at0, (by show 2 ≤ 1000; decide), fun H4 a4 s4 n4 h4 => ?_⟩
      have s24 := s3.trans s4
      refine ⟨_, rfl, G, _, 0, .str g0, rfl, rfl, SqL.of (s24 _ _ hG2), at0, _, rfl, G, _, 0, .str g0, rfl, rfl, SqL.of (s24 _ _ hG2), at0, (by show 2 ≤ 1000; decide), fun H5 a5 s5 n5 h5 => ⟨(by show 3 ≤ 1000; decide), fun H6 a6 s6 n6 h6 => ?_⟩⟩
      have s26 := (s24.trans s5).trans s6
      refine ⟨L, a6, ws, _, rfl, rfl, s26 _ _ hL2, h6, sz_le (by show ws.length + 3 ≤ 100000; omega), fun H7 a7 s7 n7 h7 => ⟨a7, _, rfl, s26.trans s7, h7, fun w m => ?_⟩⟩
      rcases List.mem_append.mp m with m | m
      · exact PairsAt.sm (s26.trans s7) pa w m
      · rcases List.mem_cons.mp m with rfl | m
        · exact ⟨a3, g0, g1, rfl, (((s4.trans s5).trans s6).trans s7).seqT (SqT.of h3)⟩
        · rcases List.mem_cons.mp m with rfl | m
          · exact ⟨a4, g1, g0, rfl, ((s5.trans s6).trans s7).seqT (SqT.of h4)⟩
          · rw [List.mem_singleton.mp m]
            exact ⟨a5, g0, g0, rfl, (s6.trans s7).seqT (SqT.of h5)⟩
    rintro σ' H3 ⟨L', ws', rfl, s3, hL3, pa3⟩
    exact ⟨_, rfl, q H3 L' ws' (k2.trans (Kp.of s3)) (p2.kp (S := []) (by simp) (Kp.of s3)) hL3 pa3⟩
def spSt (K : PySem.W.Frag) : Sp := fun vs H Q _ => ∃ (S l Nm G : Addr) (names group : List Str) (vc vt : V) (c : Clm) (t : Row) (times : Nat), vs = [.ref S] ∧ StE K H S l Nm G names group vc vt c t times ∧
  ∀ H', Kp [l] H H' → Pool H' l → Q (.bl true) H'
theorem ok_joins (T : Tx K w mg) {k : Nat} : FnOk P w K mg base CX0 (k + 93) T.a__law_joins T.d__law_joins ["state"] (spSt K) := by
  have G__law_pairs := ok_pairs (P := P) (base := base) T (k := k + 90)
  have G__law_pooled := ok_lpooled (P := P) (base := base) T (k := k + 90)
  have G__law_agrees := ok_agrees (P := P) (base := base) T (k := k)
  have G__law_tried := ok_tried (P := P) (base := base) T (k := k + 85)
  have G__law_least := ok_least (P := P) (base := base) T (k := k + 11)
  refine T.F__law_joins.ok sc__law_joins (fun vs H Q E h => ?_) (fun cdv A outer s H vs Q E hr h => ?_)
  · obtain ⟨S, l, Nm, G, names, group, vc, vt, c, t, times, rfl, _⟩ := h
    rfl
  obtain ⟨S, l, Nm, G, names, group, vc, vt, c, t, times, rfl, st, q⟩ := h
  have pr := st.pr
  have th := pr.th
  refine ⟨_, (pss_cons (ps_set (i := 1) sc__law_joins.nd rfl (Or.inl rfl) (pe_dget (hu_of hr) (pv 0) pe_str (fun _ _ => rfl)))
    (pss_cons (ps_set (i := 2) sc__law_joins.nd rfl (Or.inl rfl) (pe_dget (hu_of hr) (pv 0) pe_str (fun _ _ => rfl)))
    (pss_cons (ps_for PassesOwn.never rfl (pi_list (pe_call (G__law_pairs) hr (by rfl) T.g__law_pairs T.k__law_pairs T.b__law_pairs .nil pass0 (pa_cons (pv 0) pa_nil))) (pg_name (i := 3) sc__law_joins.nd rfl (Or.inl rfl))
      (pss_cons (ps_set (i := 4) sc__law_joins.nd rfl (Or.inl rfl) (pe_call (G__law_pooled) hr (by rfl) T.g__law_pooled T.k__law_pooled T.b__law_pooled .nil pass0 (pa_cons (pv 1) (pa_cons (pv 2) (pa_cons (pe_ix ix_tup (pv 3) pe_int (fun _ _ => rfl)) (pa_cons (pe_ix ix_tup (pv 3) pe_int (fun _ _ => rfl)) pa_nil))))))
      (pss_cons (ps_if (pt_not (pt_val (pe_call (G__law_agrees) hr (by rfl) T.g__law_agrees T.k__law_agrees T.b__law_agrees .nil pass0 (pa_cons (pe_call (G__law_tried) hr (by rfl) T.g__law_tried T.k__law_tried T.b__law_tried .nil pass0 (pa_cons pe_int (pa_cons (pv 1) (pa_cons (pv 2) (pa_cons (pe_ix ix_tup (pv 3) pe_int (fun _ _ => rfl)) (pa_cons (pe_ix ix_tup (pv 3) pe_int (fun _ _ => rfl)) pa_nil)))))) (pa_cons (pv 4) pa_nil)))))
        (pss_one (ps_ret pe_bl))
        pss_nil)
      (pss_one (ps_if (pt_val (pe_callB call_isi (by rfl) T.z_isinstance (by decide +kernel) (pa_cons (pv 4) (pa_cons (pe_bltn (v := .ty "tuple") (by rfl) T.z_tuple (by decide +kernel) rfl) pa_nil))))
        (pss_cons (ps_set (i := 5) sc__law_joins.nd rfl (Or.inl rfl) (pe_ix ix_tup (pv 4) pe_int (fun _ _ => rfl)))
        (pss_one (ps_if (PW.pt (pw_or (pt_not (pt_val (pe_call (G__law_least) hr (by rfl) T.g__law_least T.k__law_least T.b__law_least .nil pass0 (pa_cons (pe_ix ix_tup (pv 5) pe_int (fun _ _ => rfl)) (pa_cons (pe_ix ix_tup (pv 5) pe_int (fun _ _ => rfl)) pa_nil))))) (pw_or1 (pt_not (pt_val (pe_call (G__law_least) hr (by rfl) T.g__law_least T.k__law_least T.b__law_least .nil pass0 (pa_cons (pv 1) (pa_cons (pe_ix ix_tup (pv 5) pe_int (fun _ _ => rfl)) pa_nil))))))))
          (pss_one (ps_ret pe_bl))
          pss_nil)))
        pss_nil)))))
    (pss_one (ps_ret pe_bl))))), ?_⟩
  refine ⟨_, rfl, S, vc, rfl, st.gClaim, _, rfl, S, vt, rfl, st.gTree, ?_⟩
  refine ⟨_, rfl, S, l, Nm, G, names, group, vc, vt, c, t, times, rfl, st, fun H1 p ws k1 p1 hp pa => ⟨p, rfl, ⟨_, SqL.of hp⟩, ?_⟩⟩
  have st1 := st.kp k1 p1
  refine for_list (xs := ws) (fun i σ' H' => ∃ y3 y4 y5 : Option V, σ' = [some (.ref S), some vc, some vt, y3, y4, y5] ∧ Same H1 H') ⟨none, none, none, rfl, Same.refl _⟩ ?_ ?_ ?_
  · rintro i σ' H' _ ⟨_, _, _, _, s'⟩
    exact s'.seq (SqL.of hp)
  · rintro i z σ' H2 hi ⟨y3, y4, y5, rfl, s2⟩
    obtain ⟨a, x, y, rfl, ha1⟩ := pa z (List.mem_of_getElem? hi)
    have ha := s2.seqT ha1
    have hc := Dp.sm s2 _ _ st1.hc
    have ht := Dp.sm s2 _ _ st1.ht
    refine ⟨_, rfl, _, rfl, _, rfl, a, _, 0, .str x, rfl, rfl, ha, atI_at (j := 0) rfl rfl, _, rfl, a, _, 1, .str y, rfl, rfl, ha, atI_at (j := 1) rfl rfl, vc, vt, c, t, x, y, rfl, hc, ht, by omega, pr.ok, fun H3 r3 s3 due => ?_⟩
    have ha3 := s3.seqT ha
    refine ⟨_, rfl, _, rfl, _, rfl, a, _, 0, .str x, rfl, rfl, ha3, atI_at (j := 0) rfl rfl, _, rfl, a, _, 1, .str y, rfl, rfl, ha3, atI_at (j := 1) rfl rfl, vc, vt, c, x, poolA c t x y, Dp.sm s3 _ _ hc, pr.ok, fun H4 r4 s4 tr => ?_, .inl ⟨t, y, rfl, Dp.sm s3 _ _ ht, by omega, rfl⟩⟩
    refine ⟨_, rfl, r4, r3, poolA c t x y, rfl, tr, due.sm s4, small_pool x y pr, fun H5 s5 => ⟨_, rfl, iteF ?_⟩⟩
    have due5 := (due.sm s4).sm s5
    have s25 := (s3.trans s4).trans s5
    rcases due5.split with ⟨d, p2, w2, ep, rfl, h1, h2⟩ | ⟨_, p2, xs, rfl, h1⟩
    · obtain ⟨kd, ej, rfl⟩ := poolA_told ep
      obtain ⟨pm, m0, m1, rfl, hm, hm0, hm1⟩ := pair_at h2
      refine ⟨_, rfl, _, _, _, _, _, rfl, .ty _, ty_tup h1, kit_tt, _, rfl, iteT ?_⟩
      refine ⟨_, rfl, p2, _, 1, .ref pm, rfl, rfl, h1, atI_at (j := 1) rfl rfl, ?_⟩
      refine ⟨_, rfl, pm, _, 0, m0, rfl, rfl, hm, atI_at (j := 0) rfl rfl, _, rfl, pm, _, 1, m1, rfl, rfl, hm, atI_at (j := 1) rfl rfl, m0, m1, _, _, rfl, hm0, hm1, (pr.pool ej).mv _, fun H6 s6 => ⟨_, rfl, iteF ?_⟩⟩
      refine ⟨_, rfl, _, rfl, pm, _, 1, m1, rfl, rfl, s6.seqT hm, atI_at (j := 1) rfl rfl, vc, m1, c, _, rfl, Dp.sm (s25.trans s6) _ _ hc, Dp.sm s6 _ _ hm1, pr.mv _, fun H7 s7 => ⟨_, rfl, iteF ?_⟩⟩
      exact ⟨_, _, _, rfl, s2.trans ((s25.trans s6).trans s7)⟩
    · refine ⟨_, rfl, _, _, _, _, _, rfl, .ty _, ty_lst h1, kit_lt, _, rfl, iteF ?_⟩
      exact ⟨_, _, _, rfl, s2.trans s25⟩
  · rintro σ' H2 ⟨y3, y4, y5, rfl, s2⟩
    exact q H2 (k1.trans (Kp.of s2)) (p1.kp (S := []) (by simp) (Kp.of s2))
theorem ok_lifted (T : Tx K w mg) {k : Nat} : FnOk P w K mg base CX0 (k + 93) T.a__law_lifted T.d__law_lifted ["state"] (spSt K) := by
  have G__law_next := ok_next (P := P) (base := base) T (k := k + 91)
  have G__law_taken := ok_ltaken (P := P) (base := base) T (k := k + 90)
  have G__law_agrees := ok_agrees (P := P) (base := base) T (k := k)
  have G__law_tried := ok_tried (P := P) (base := base) T (k := k + 85)
  have G__law_least := ok_least (P := P) (base := base) T (k := k + 11)
  refine T.F__law_lifted.ok sc__law_lifted (fun vs H Q E h => ?_) (fun cdv A outer s H vs Q E hr h => ?_)
  · obtain ⟨S, l, Nm, G, names, group, vc, vt, c, t, times, rfl, _⟩ := h
    rfl
  obtain ⟨S, l, Nm, G, names, group, vc, vt, c, t, times, rfl, st, q⟩ := h
  have pr := st.pr
  have th := st.th
  have n0 := st.n0
  have nz := st.nz
  have cg := st.dr.goal
  have ttz := st.tz
  have ttd := st.td
  refine ⟨_, (pss_cons (ps_set (i := 1) sc__law_lifted.nd rfl (Or.inl rfl) (pe_dget (hu_of hr) (pv 0) pe_str (fun _ _ => rfl)))
    (pss_cons (ps_set (i := 2) sc__law_lifted.nd rfl (Or.inl rfl) (pe_dget (hu_of hr) (pv 0) pe_str (fun _ _ => rfl)))
    (pss_cons (ps_set (i := 3) sc__law_lifted.nd rfl (Or.inl rfl) (pe_dget (hu_of hr) (pv 0) pe_str (fun _ _ => rfl)))
    (pss_cons (ps_set (i := 4) sc__law_lifted.nd rfl (Or.inl rfl) (pe_dget (hu_of hr) (pv 0) pe_str (fun _ _ => rfl)))
    (pss_cons (ps_set (i := 5) sc__law_lifted.nd rfl (Or.inl rfl) (pe_ix ix_list (pv 2) (pe_call (G__law_next) hr (by rfl) T.g__law_next T.k__law_next T.b__law_next .nil pass0 (pa_cons (pv 1) (pa_cons (pe_callB call_len_seq (by rfl) T.z_len (by decide +kernel) (pa_cons (pv 2) pa_nil)) pa_nil))) (fun _ _ => rfl)))
    (pss_cons (ps_set (i := 6) sc__law_lifted.nd rfl (Or.inl rfl) (pe_ix ix_list (pv 2) (pe_call (G__law_next) hr (by rfl) T.g__law_next T.k__law_next T.b__law_next .nil pass0 (pa_cons (pv 1) (pa_cons (pe_callB call_len_seq (by rfl) T.z_len (by decide +kernel) (pa_cons (pv 2) pa_nil)) pa_nil))) (fun _ _ => rfl)))
    (pss_cons (ps_for PassesOwn.never rfl (pi_list (pe_lstN (pa_cons (pe_tupN (pa_cons (pv 5) (pa_cons (pv 6) pa_nil))) (pa_cons (pe_tupN (pa_cons (pv 6) (pa_cons (pv 5) pa_nil))) pa_nil)))) (pg_name (i := 7) sc__law_lifted.nd rfl (Or.inl rfl))
      (pss_cons (ps_set (i := 8) sc__law_lifted.nd rfl (Or.inl rfl) (pe_call (G__law_taken) hr (by rfl) T.g__law_taken T.k__law_taken T.b__law_taken .nil pass0 (pa_cons (pv 3) (pa_cons (pv 4) (pa_cons (pe_ix ix_tup (pv 7) pe_int (fun _ _ => rfl)) pa_nil)))))
      (pss_cons (ps_if (pt_not (pt_val (pe_call (G__law_agrees) hr (by rfl) T.g__law_agrees T.k__law_agrees T.b__law_agrees .nil pass0 (pa_cons (pe_call (G__law_tried) hr (by rfl) T.g__law_tried T.k__law_tried T.b__law_tried .nil pass0 (pa_cons pe_int (pa_cons (pv 3) (pa_cons (pv 4) (pa_cons (pe_ix ix_tup (pv 7) pe_int (fun _ _ => rfl)) (pa_cons pe_str pa_nil)))))) (pa_cons (pv 8) pa_nil)))))
        (pss_one (ps_ret pe_bl))
        pss_nil)
      (pss_one (ps_if (pt_val (pe_callB call_isi (by rfl) T.z_isinstance (by decide +kernel) (pa_cons (pv 8) (pa_cons (pe_bltn (v := .ty "tuple") (by rfl) T.z_tuple (by decide +kernel) rfl) pa_nil))))
        (pss_cons (ps_set (i := 9) sc__law_lifted.nd rfl (Or.inl rfl) (pe_ix ix_tup (pv 8) pe_int (fun _ _ => rfl)))
        (pss_cons (ps_set (i := 10) sc__law_lifted.nd rfl (Or.inl rfl) (pe_call (G__law_taken) hr (by rfl) T.g__law_taken T.k__law_taken T.b__law_taken .nil pass0 (pa_cons (pe_ix ix_tup (pv 9) pe_int (fun _ _ => rfl)) (pa_cons (pe_ix ix_tup (pv 9) pe_int (fun _ _ => rfl)) (pa_cons (pe_ix ix_tup (pv 7) pe_int (fun _ _ => rfl)) pa_nil)))))
        (pss_cons (ps_if (pt_not (pt_val (pe_call (G__law_least) hr (by rfl) T.g__law_least T.k__law_least T.b__law_least .nil pass0 (pa_cons (pe_ix ix_tup (pv 9) pe_int (fun _ _ => rfl)) (pa_cons (pe_ix ix_tup (pv 9) pe_int (fun _ _ => rfl)) pa_nil)))))
          (pss_one (ps_ret pe_bl))
          pss_nil)
        (pss_one (ps_if (pt_not (pt_val (pe_call (G__law_agrees) hr (by rfl) T.g__law_agrees T.k__law_agrees T.b__law_agrees .nil pass0 (pa_cons (pe_call (G__law_tried) hr (by rfl) T.g__law_tried T.k__law_tried T.b__law_tried .nil pass0 (pa_cons pe_int (pa_cons (pe_ix ix_tup (pv 9) pe_int (fun _ _ => rfl)) (pa_cons (pe_ix ix_tup (pv 9) pe_int (fun _ _ => rfl)) (pa_cons (pe_ix ix_tup (pv 7) pe_int (fun _ _ => rfl)) (pa_cons pe_str pa_nil)))))) (pa_cons (pv 10) pa_nil)))))
          (pss_one (ps_ret pe_bl))
          pss_nil)))))
        pss_nil)))))
    (pss_one (ps_ret pe_bl))))))))), ?_⟩
  refine ⟨_, rfl, S, .ref l, rfl, st.gPool, _, rfl, S, .ref Nm, rfl, st.gNames, _, rfl, S, vc, rfl, st.gClaim, _, rfl, S, vt, rfl, st.gTree, ?_⟩
  refine ⟨_, rfl, _, rfl, _, rfl, Nm, _, rfl, .inl (SqL.of st.hn), l, _, rfl, st.pool, by rw [List.length_map]; omega, by rw [List.length_map]; omega, fun d H1 d0 d1 k1 p1 => ?_⟩
  have st1 := st.kp k1 p1
  obtain ⟨x1, _, hx1⟩ := draw_at d0 d1
  refine ⟨Nm, _, d, .str x1, rfl, rfl, SqL.of st1.hn, hx1, ?_⟩
  refine ⟨_, rfl, _, rfl, _, rfl, Nm, _, rfl, .inl (SqL.of st1.hn), l, _, rfl, p1, by rw [List.length_map]; omega, by rw [List.length_map]; omega, fun e H2 e0 e1 k2 p2 => ?_⟩
  have st2 := st1.kp k2 p2
  obtain ⟨x2, _, hx2⟩ := draw_at e0 e1
  refine ⟨Nm, _, e, .str x2, rfl, rfl, SqL.of st2.hn, hx2, ?_⟩
  refine ⟨_, rfl, _, rfl, (by show 2 ≤ 1000; decide), fun H3 a3 s3 n3 h3 => ⟨_, rfl, _, rfl, (by show 2 ≤ 1000; decide), fun H4 a4 s4 n4 h4 => ⟨(by show 2 ≤ 1000; decide), fun H5 p s5 np hp => ⟨p, rfl, ⟨_, SqL.of hp⟩, ?_⟩⟩⟩⟩
  have pa : PairsAt K H5 [.ref a3, .ref a4] := fun w m => by
    rcases List.mem_cons.mp m with rfl | m
    · exact ⟨a3, x1, x2, rfl, (s4.trans s5).seqT (SqT.of h3)⟩
    · rw [List.mem_singleton.mp m]
      exact ⟨a4, x2, x1, rfl, s5.seqT (SqT.of h4)⟩
  have st5 := st2.sm ((s3.trans s4).trans s5)
  have k05 : Kp [l] H H5 := (k1.trans k2).trans (Kp.of ((s3.trans s4).trans s5))
  refine for_list (xs := [.ref a3, .ref a4]) (fun i σ' H' => ∃ y7 y8 y9 y10 : Option V, σ' = [some (.ref S), some (.ref l), some (.ref Nm), some vc, some vt, some (.str x1), some (.str x2), y7, y8, y9, y10] ∧ Same H5 H') ⟨none, none, none, none, rfl, Same.refl _⟩ ?_ ?_ ?_
  · rintro i σ' H' _ ⟨_, _, _, _, _, s'⟩
    exact s'.seq (SqL.of hp)
  · rintro i z σ' H6 hi ⟨y7, y8, y9, y10, rfl, s6⟩
    obtain ⟨a, x, y, rfl, ha1⟩ := pa z (List.mem_of_getElem? hi)
    have ha := s6.seqT ha1
    have hc := Dp.sm s6 _ _ st5.hc
    have ht := Dp.sm s6 _ _ st5.ht
    refine ⟨_, rfl, _, rfl, _, rfl, a, _, 0, .str x, rfl, rfl, ha, atI_at (j := 0) rfl rfl, vc, vt, c, t, x, rfl, hc, ht, by omega, pr.few, fun H7 r7 s7 due => ?_⟩
    have ha7 := s7.seqT ha
    refine ⟨_, rfl, _, rfl, _, rfl, a, _, 0, .str x, rfl, rfl, ha7, atI_at (j := 0) rfl rfl, vc, vt, c, x, liftA c t x, Dp.sm s7 _ _ hc, pr.ok, fun H8 r8 s8 tr => ?_, .inr (.inl ⟨t, _, rfl, Dp.sm s7 _ _ ht, by omega, rfl⟩)⟩
    refine ⟨_, rfl, r8, r7, liftA c t x, rfl, tr, due.sm s8, small_lift x pr (by omega), fun H9 s9 => ⟨_, rfl, iteF ?_⟩⟩
    have due9 := (due.sm s8).sm s9
    have s69 := (s7.trans s8).trans s9
    rcases due9.split with ⟨d, p2, w2, ep, rfl, h1, h2⟩ | ⟨_, p2, xs, rfl, h1⟩
    · obtain ⟨hh, er, rfl⟩ := liftA_told ep
      obtain ⟨pm, m0, m1, rfl, hm, hm0, hm1⟩ := pair_at h2
      have pr2 : Pr (c.lift x hh) (liftR t x) := pr.lift er (by omega) (by omega) (by omega) (by omega)
      have g2 : (c.lift x hh).goal.d.depth ≤ 11 := by
        have ph := (pr.all hh (row_mem er).1).1.2
        have kd := kd_dep hh.kd
        show (Sn.d (.trade hh.kd hh.sn c.goal)).depth ≤ 11
        simp only [Sn.d, PyData.depth, PyData.depthAll]
        omega
      have th2 : (liftR t x).ht ≤ 65 := pr2.th
      refine ⟨_, rfl, _, _, _, _, _, rfl, .ty _, ty_tup h1, kit_tt, _, rfl, iteT ?_⟩
      refine ⟨_, rfl, p2, _, 1, .ref pm, rfl, rfl, h1, atI_at (j := 1) rfl rfl, ?_⟩
      have ha9 := (s8.trans s9).seqT ha7
      refine ⟨_, rfl, pm, _, 0, m0, rfl, rfl, hm, atI_at (j := 0) rfl rfl, _, rfl, pm, _, 1, m1, rfl, rfl, hm, atI_at (j := 1) rfl rfl, _, rfl, a, _, 1, .str y, rfl, rfl, ha9, atI_at (j := 1) rfl rfl, m0, m1, _, _, y, rfl, hm0, hm1, by omega, pr2.few, fun H10 r10 s10 more => ?_⟩
      refine ⟨_, rfl, pm, _, 0, m0, rfl, rfl, s10.seqT hm, atI_at (j := 0) rfl rfl, _, rfl, pm, _, 1, m1, rfl, rfl, s10.seqT hm, atI_at (j := 1) rfl rfl, m0, m1, _, _, rfl, Dp.sm s10 _ _ hm0, Dp.sm s10 _ _ hm1, pr2, fun H11 s11 => ⟨_, rfl, iteF ?_⟩⟩
      have s911 := s10.trans s11
      refine ⟨_, rfl, pm, _, 0, m0, rfl, rfl, s911.seqT hm, atI_at (j := 0) rfl rfl, _, rfl, pm, _, 1, m1, rfl, rfl, s911.seqT hm, atI_at (j := 1) rfl rfl, _, rfl, a, _, 1, .str y, rfl, rfl, s911.seqT ha9, atI_at (j := 1) rfl rfl, m0, m1, _, y, _, Dp.sm s911 _ _ hm0, pr2.ok, fun H12 r12 s12 tr2 => ?_, .inr (.inl ⟨liftR t x, _, rfl, Dp.sm s911 _ _ hm1, by omega, rfl⟩)⟩
      refine ⟨_, rfl, r12, r10, _, rfl, tr2, (more.sm s11).sm s12, small_lift y pr2 g2, fun H13 s13 => ⟨_, rfl, iteF ?_⟩⟩
      exact ⟨_, _, _, _, rfl, s6.trans (s69.trans ((s911.trans s12).trans s13))⟩
    · refine ⟨_, rfl, _, _, _, _, _, rfl, .ty _, ty_lst h1, kit_lt, _, rfl, iteF ?_⟩
      exact ⟨_, _, _, _, rfl, s6.trans s69⟩
  · rintro σ' H6 ⟨y7, y8, y9, y10, rfl, s6⟩
    exact q H6 (k05.trans (Kp.of s6)) (st5.pool.kp (S := []) (by simp) (Kp.of s6))
end
end HA

/-! Three ways, rooms, the law. -/
namespace HA
open PySem PySem.Spec PyProof.Rows L2 HX
section
variable {P : Program} {w : World} {K : PySem.W.Frag} {mg : Str → Option Value} {base : Heap}
def spGiven (K : PySem.W.Frag) : Sp := fun vs H Q _ => ∃ (l : Addr) (v : V) (c : Clm) (x : Str), vs = [.ref l, v, .str x] ∧ Pool H l ∧ Dp K H v c.d ∧ ∀ r k H', Dp K H' r (Kd.d k) → Kp [l] H H' → Pool H' l → Q r H'
theorem ok_given (T : Tx K w mg) {k : Nat} : FnOk P w K mg base CX0 (k + 2) T.a__law_given T.d__law_given ["pool", "claim", "name"] (spGiven K) := by
  have G__law_next := ok_next (P := P) (base := base) T (k := k)
  have G__law_row_of := ok_row_of (P := P) (base := base) T (k := k)
  refine T.F__law_given.ok sc__law_given (fun vs H Q E h => ?_) (fun cdv A outer s H vs Q E hr h => ?_)
  · obtain ⟨l, v, c, x, rfl, _⟩ := h
    rfl
  obtain ⟨l, v, c, x, rfl, hp, hv, q⟩ := h
  refine ⟨_, (pss_cons (ps_set (i := 3) sc__law_given.nd rfl (Or.inl rfl) (pe_call (G__law_row_of) hr (by rfl) T.g__law_row_of T.k__law_row_of T.b__law_row_of .nil pass0 (pa_cons (pv 1) (pa_cons (pv 2) pa_nil))))
    (pss_cons (ps_set (i := 4) sc__law_given.nd rfl (Or.inl rfl) (pe_call (G__law_next) hr (by rfl) T.g__law_next T.k__law_next T.b__law_next .nil pass0 (pa_cons (pv 0) (pa_cons pe_int pa_nil))))
    (pss_cons (ps_if (pt_cmpR op_eq (pv 4) pe_int (nomark _))
      (pss_one (ps_ret pe_str))
      pss_nil)
    (pss_cons (ps_if (PW.pt (pw_or (pt_cmpR op_eq (pv 4) pe_int (nomark _)) (pw_or (pt_cmpR op_isN (pv 3) pe_non (nomark _)) (pw_or1 (pt_cmpR (op_eqD hr.units) (pe_ix ix_tup (pv 3) pe_int (fun _ _ => rfl)) pe_str (nomark _))))))
      (pss_one (ps_ret (pe_tupN (pa_cons (pe_op op_add pe_int (pe_call (G__law_next) hr (by rfl) T.g__law_next T.k__law_next T.b__law_next .nil pass0 (pa_cons (pv 0) (pa_cons pe_int pa_nil)))) (pa_cons (pe_call (G__law_next) hr (by rfl) T.g__law_next T.k__law_next T.b__law_next .nil pass0 (pa_cons (pv 0) (pa_cons pe_int pa_nil))) pa_nil)))))
      pss_nil)
    (pss_cons (ps_set (i := 5) sc__law_given.nd rfl (Or.inl rfl) (pe_tupN (pa_cons (pe_op op_add (pe_op op_sub (pe_ix ix_tup (pe_ix ix_tup (pv 3) pe_int (fun _ _ => rfl)) pe_int (fun _ _ => rfl)) pe_int) (pe_call (G__law_next) hr (by rfl) T.g__law_next T.k__law_next T.b__law_next .nil pass0 (pa_cons (pv 0) (pa_cons pe_int pa_nil)))) (pa_cons (pe_op op_add (pe_op op_sub (pe_ix ix_tup (pe_ix ix_tup (pv 3) pe_int (fun _ _ => rfl)) pe_int (fun _ _ => rfl)) pe_int) (pe_call (G__law_next) hr (by rfl) T.g__law_next T.k__law_next T.b__law_next .nil pass0 (pa_cons (pv 0) (pa_cons pe_int pa_nil)))) pa_nil))))
    (pss_one (ps_ret (pe_tupN (pa_cons (pe_callB (call_min2 rfl) (by rfl) T.z_min (by decide +kernel) (pa_cons pe_int (pa_cons (pe_callB (call_max2 rfl) (by rfl) T.z_max (by decide +kernel) (pa_cons pe_int (pa_cons (pe_ix ix_tup (pv 5) pe_int (fun _ _ => rfl)) pa_nil))) pa_nil))) (pa_cons (pe_callB (call_min2 rfl) (by rfl) T.z_min (by decide +kernel) (pa_cons pe_int (pa_cons (pe_callB (call_max2 rfl) (by rfl) T.z_max (by decide +kernel) (pa_cons pe_int (pa_cons (pe_ix ix_tup (pv 5) pe_int (fun _ _ => rfl)) pa_nil))) pa_nil))) pa_nil)))))))))), ?_⟩
  have any : ∀ (r : V), (r = .non ∨ ∃ h : Hold, Dp K H r h.d) → (tSeq (tAsg (tCall spNext [] E0 (tCons (tVar 0) (tCons (tC (.int 5)) tNil))) (gName 4)) (fun D σ H => True)) { nx := fun x H' => Q V.non H', rt := Q } [some (.ref l), some v, some (.str x), some r, none, none] H := fun r _ =>
    ⟨_, rfl, l, 5, rfl, hp, by decide, by decide, fun _ _ _ _ _ _ => trivial⟩
  clear any
  have two : ∀ (r : V), (r = .non ∨ ∃ h : Hold, Dp K H r h.d) → ∀ (f : Int) (H1 : Hp), Kp [l] H H1 → Pool H1 l → ∀ (g : Int) (H2 : Hp), Kp [l] H1 H2 → Pool H2 l → ∀ (m : Int) (H3 : Hp), Kp [l] H2 H3 → Pool H3 l → ∀ H4 p, Same H3 H4 → H4 p = some (.tup [.int f, .int m]) → Q (.ref p) H4 := fun r _ f H1 k1 p1 g H2 k2 p2 m H3 k3 p3 H4 p s4 h4 =>
    q _ (.st f m) H4 (.tup (SqT.of h4) (.cons (.int _) (.cons (.int _) .nil))) (((k1.trans k2).trans k3).trans (Kp.of s4)) (p3.kp (S := []) (by simp) (Kp.of s4))
  refine ⟨_, rfl, _, rfl, v, c, x, rfl, hv, fun h r er hr' => ?_, fun er => ?_⟩
  · obtain ⟨p1, yk, zk, rfl, hp1, hy, hz⟩ := hold_at hr'
    refine ⟨_, rfl, l, 5, rfl, hp, by decide, by decide, fun d H1 d0 d1 k1 q1 => ?_⟩
    have hp11 := k1.seqT hp.lsts hp1
    have hy1 := Dp.kp k1 hp.lsts _ _ h.kd.tu hy
    refine ⟨_, rfl, rfl, _, rfl, iteB (fun _ => q _ .once H1 (.str _) k1 q1) (fun _ => ?_)⟩
    have rnd : ∀ H1', Same H1 H1' → True := fun _ _ => trivial
    have draw2 : tRet (tTupN (tCons (tOp (rI0 fun i j => .int (i + j)) (tC (.int 1)) (tCall spNext [] E0 (tCons (tVar 0) (tCons (tC (.int 600)) tNil)))) (tCons (tCall spNext [] E0 (tCons (tVar 0) (tCons (tC (.int 101)) tNil))) tNil))) { nx := fun x H' => Q V.non H', rt := Q } [some (.ref l), some v, some (.str x), some (.ref p1), some (.int d), none] H1 := by
      refine ⟨_, rfl, l, 600, rfl, q1, by decide, by decide, fun f H2 f0 f1 k2 p2 => ⟨_, _, rfl, rfl, _, rfl, l, 101, rfl, p2, by decide, by decide, fun g H3 g0 g1 k3 p3 => ⟨(by show 2 ≤ 1000; decide), fun H4 r4 s4 n4 h4 => ?_⟩⟩⟩
      exact q _ (.st (1 + f) g) H4 (.tup (SqT.of h4) (.cons (.int _) (.cons (.int _) .nil))) (((k1.trans k2).trans k3).trans (Kp.of s4)) (p3.kp (S := []) (by simp) (Kp.of s4))
    refine ⟨_, rfl, rfl, _, rfl, iteB (fun _ => draw2) (fun _ => ⟨_, rfl, rfl, _, rfl, ?_⟩)⟩
    rw [decide_eq_false (show ¬ V.ref p1 = .non by intro z; cases z)]
    refine iteF ⟨_, rfl, p1, _, 1, yk, rfl, rfl, hp11, atI_at (j := 1) rfl rfl, h.kd.d, .str "once", hy1, .str _, shaped_kd _, shaped_once, _, rfl, ?_⟩
    rw [eqv_once]
    rcases dp_kd hy1 with ⟨ek, ev⟩ | ⟨ka, n, dd, ek, ev, hka⟩
    · rw [decide_eq_true ek]
      exact iteT draw2
    · subst ev
      rw [decide_eq_false (show ¬ h.kd = .once by rw [ek]; intro z; cases z)]
      refine iteF ?_
      refine ⟨_, rfl, p1, _, 1, .ref ka, rfl, rfl, hp11, atI_at (j := 1) rfl rfl, ka, _, 0, .int n, rfl, rfl, hka, atI_at (j := 0) rfl rfl, _, _, rfl, rfl, _, rfl, l, 3, rfl, q1, by decide, by decide, fun f H2 f0 f1 k2 p2 => ⟨_, _, rfl, rfl, ?_⟩⟩
      have hp12 := k2.seqT q1.lsts hp11
      have hka2 := k2.seqT q1.lsts hka
      refine ⟨_, rfl, p1, _, 1, .ref ka, rfl, rfl, hp12, atI_at (j := 1) rfl rfl, ka, _, 1, .int dd, rfl, rfl, hka2, atI_at (j := 1) rfl rfl, _, _, rfl, rfl, _, rfl, l, 3, rfl, p2, by decide, by decide, fun g H3 g0 g1 k3 p3 => ⟨_, _, rfl, rfl, (by show 2 ≤ 1000; decide), fun H4 r4 s4 n4 h4 => ?_⟩⟩
      refine ⟨_, rfl, r4, _, 0, _, rfl, rfl, SqT.of h4, atI_at (j := 0) rfl rfl, _, _, rfl, _, _, rfl, ?_⟩
      refine ⟨_, rfl, r4, _, 1, _, rfl, rfl, SqT.of h4, atI_at (j := 1) rfl rfl, _, _, rfl, _, _, rfl, ?_⟩
      refine ⟨(by show 2 ≤ 1000; decide), fun H5 r5 s5 n5 h5 => ?_⟩
      exact q _ (.st _ _) H5 (.tup (SqT.of h5) (.cons (.int _) (.cons (.int _) .nil))) (((k1.trans k2).trans k3).trans (Kp.of (s4.trans s5))) (p3.kp (S := []) (by simp) (Kp.of (s4.trans s5)))
  · refine ⟨_, rfl, l, 5, rfl, hp, by decide, by decide, fun d H1 d0 d1 k1 q1 => ?_⟩
    refine ⟨_, rfl, rfl, _, rfl, iteB (fun _ => q _ .once H1 (.str _) k1 q1) (fun _ => ?_)⟩
    have draw2 : tRet (tTupN (tCons (tOp (rI0 fun i j => .int (i + j)) (tC (.int 1)) (tCall spNext [] E0 (tCons (tVar 0) (tCons (tC (.int 600)) tNil)))) (tCons (tCall spNext [] E0 (tCons (tVar 0) (tCons (tC (.int 101)) tNil))) tNil))) { nx := fun x H' => Q V.non H', rt := Q } [some (.ref l), some v, some (.str x), some .non, some (.int d), none] H1 := by
      refine ⟨_, rfl, l, 600, rfl, q1, by decide, by decide, fun f H2 f0 f1 k2 p2 => ⟨_, _, rfl, rfl, _, rfl, l, 101, rfl, p2, by decide, by decide, fun g H3 g0 g1 k3 p3 => ⟨(by show 2 ≤ 1000; decide), fun H4 r4 s4 n4 h4 => ?_⟩⟩⟩
      exact q _ (.st (1 + f) g) H4 (.tup (SqT.of h4) (.cons (.int _) (.cons (.int _) .nil))) (((k1.trans k2).trans k3).trans (Kp.of s4)) (p3.kp (S := []) (by simp) (Kp.of s4))
    exact ⟨_, rfl, rfl, _, rfl, iteB (fun _ => draw2) (fun _ => ⟨_, rfl, rfl, _, rfl, yv draw2⟩)⟩
theorem ok_rooms (T : Tx K w mg) {k : Nat} : FnOk P w K mg base CX0 (k + 93) T.a__law_rooms T.d__law_rooms ["state"] (spSt K) := by
  have G__law_next := ok_next (P := P) (base := base) T (k := k + 91)
  have G__law_given := ok_given (P := P) (base := base) T (k := k + 90)
  have G__law_widened := ok_lwide (P := P) (base := base) T (k := k + 90)
  have G__law_agrees := ok_agrees (P := P) (base := base) T (k := k)
  have G__law_tried := ok_tried (P := P) (base := base) T (k := k + 85)
  refine T.F__law_rooms.ok sc__law_rooms (fun vs H Q E h => ?_) (fun cdv A outer s H vs Q E hr h => ?_)
  · obtain ⟨S, l, Nm, G, names, group, vc, vt, c, t, times, rfl, _⟩ := h
    rfl
  obtain ⟨S, l, Nm, G, names, group, vc, vt, c, t, times, rfl, st, q⟩ := h
  have pr := st.pr
  have n0 := st.n0
  have nz := st.nz
  refine ⟨_, (pss_cons (ps_set (i := 1) sc__law_rooms.nd rfl (Or.inl rfl) (pe_dget (hu_of hr) (pv 0) pe_str (fun _ _ => rfl)))
    (pss_cons (ps_set (i := 2) sc__law_rooms.nd rfl (Or.inl rfl) (pe_dget (hu_of hr) (pv 0) pe_str (fun _ _ => rfl)))
    (pss_cons (ps_set (i := 3) sc__law_rooms.nd rfl (Or.inl rfl) (pe_dget (hu_of hr) (pv 0) pe_str (fun _ _ => rfl)))
    (pss_cons (ps_for PassesOwn.never rfl (pi_range1 (by rfl) T.z_range (pa_cons pe_int pa_nil)) (pg_name (i := 4) sc__law_rooms.nd rfl (Or.inl rfl))
      (pss_cons (ps_set (i := 5) sc__law_rooms.nd rfl (Or.inl rfl) (pe_ix ix_list (pv 2) (pe_call (G__law_next) hr (by rfl) T.g__law_next T.k__law_next T.b__law_next .nil pass0 (pa_cons (pv 1) (pa_cons (pe_callB call_len_seq (by rfl) T.z_len (by decide +kernel) (pa_cons (pv 2) pa_nil)) pa_nil))) (fun _ _ => rfl)))
      (pss_cons (ps_set (i := 6) sc__law_rooms.nd rfl (Or.inl rfl) (pe_call (G__law_given) hr (by rfl) T.g__law_given T.k__law_given T.b__law_given .nil pass0 (pa_cons (pv 1) (pa_cons (pv 3) (pa_cons (pv 5) pa_nil)))))
      (pss_one (ps_if (pt_not (pt_val (pe_call (G__law_agrees) hr (by rfl) T.g__law_agrees T.k__law_agrees T.b__law_agrees .nil pass0 (pa_cons (pe_call (G__law_tried) hr (by rfl) T.g__law_tried T.k__law_tried T.b__law_tried .nil pass0 (pa_cons pe_int (pa_cons (pv 3) (pa_cons (pe_tupN pa_nil) (pa_cons (pv 5) (pa_cons (pv 6) pa_nil)))))) (pa_cons (pe_call (G__law_widened) hr (by rfl) T.g__law_widened T.k__law_widened T.b__law_widened .nil pass0 (pa_cons (pv 3) (pa_cons (pv 5) (pa_cons (pv 6) pa_nil)))) pa_nil)))))
        (pss_one (ps_ret pe_bl))
        pss_nil)))))
    (pss_one (ps_ret pe_bl)))))), ?_⟩
  refine ⟨_, rfl, S, .ref l, rfl, st.gPool, _, rfl, S, .ref Nm, rfl, st.gNames, _, rfl, S, vc, rfl, st.gClaim, ?_⟩
  refine ⟨4, rfl, by decide, by decide, ?_⟩
  refine for_range (fun i σ' H' => ∃ y4 y5 y6 : Option V, σ' = [some (.ref S), some (.ref l), some (.ref Nm), some vc, y4, y5, y6] ∧ Kp [l] H H' ∧ Pool H' l) ⟨none, none, none, rfl, Kp.refl _, st.pool⟩ ?_ ?_
  · rintro i σ' H1 hi ⟨y4, y5, y6, rfl, k1, p1⟩
    have st1 := st.kp k1 p1
    refine ⟨_, rfl, _, rfl, _, rfl, Nm, _, rfl, .inl (SqL.of st1.hn), l, _, rfl, p1, by rw [List.length_map]; omega, by rw [List.length_map]; omega, fun d H2 d0 d1 k2 p2 => ?_⟩
    have st2 := st1.kp k2 p2
    obtain ⟨x, _, hx⟩ := draw_at d0 d1
    refine ⟨Nm, _, d, .str x, rfl, rfl, SqL.of st2.hn, hx, ?_⟩
    refine ⟨_, rfl, _, rfl, _, rfl, l, vc, c, x, rfl, p2, st2.hc, fun r kd H3 hk k3 p3 => ?_⟩
    have st3 := st2.kp k3 p3
    refine ⟨_, rfl, (by show 0 ≤ 1000; decide), fun H4 e4 s4 n4 h4 => ⟨_, rfl, _, rfl, vc, .ref e4, c, x, wideA c x kd, Dp.sm s4 _ _ st3.hc, pr.ok, fun H5 r5 s5 tr => ?_, .inr (.inr ⟨r, kd, rfl, Dp.sm s4 _ _ hk, rfl⟩)⟩⟩
    have s35 := s4.trans s5
    refine ⟨_, rfl, _, rfl, _, rfl, vc, r, c, x, kd, rfl, Dp.sm s35 _ _ st3.hc, Dp.sm s35 _ _ hk, st.few, fun H6 r6 s6 due => ?_⟩
    refine ⟨r5, r6, wideA c x kd, rfl, tr.sm s6, due, small_wide x kd (Nat.le_trans st.few (by decide)) (fun h m => (pr.all h m).1.2) pr.goal, fun H7 s7 => ⟨_, rfl, iteF ?_⟩⟩
    exact ⟨_, _, _, rfl, ((k1.trans k2).trans k3).trans (Kp.of ((s35.trans s6).trans s7)), p3.kp (S := []) (by simp) (Kp.of ((s35.trans s6).trans s7))⟩
  · rintro σ' H1 ⟨y4, y5, y6, rfl, k1, p1⟩
    exact q H1 k1 p1
end
end HA

/-! Three ways; the law. -/
namespace HA
open PySem PySem.Spec PyProof.Rows L2 HX
section
variable {P : Program} {w : World} {K : PySem.W.Frag} {mg : Str → Option Value} {base : Heap}
theorem ok_three (T : Tx K w mg) {k : Nat} : FnOk P w K mg base CX0 (k + 93) T.a__law_three T.d__law_three ["state"] (spSt K) := by
  have G__law_pooled := ok_lpooled (P := P) (base := base) T (k := k + 90)
  have G__law_agrees := ok_agrees (P := P) (base := base) T (k := k)
  have G__law_tried := ok_tried (P := P) (base := base) T (k := k + 85)
  have G__law_least := ok_least (P := P) (base := base) T (k := k + 11)
  have G__law_same := ok_same (P := P) (base := base) T (k + 91)
  refine T.F__law_three.ok sc__law_three (fun vs H Q E h => ?_) (fun cdv A outer s H vs Q E hr h => ?_)
  · obtain ⟨S, l, Nm, G, names, group, vc, vt, c, t, times, rfl, _⟩ := h
    rfl
  obtain ⟨S, l, Nm, G, names, group, vc, vt, c, t, times, rfl, st, q⟩ := h
  have pr := st.pr
  refine ⟨_, (pss_cons (ps_set (i := 1) sc__law_three.nd rfl (Or.inl rfl) (pe_dget (hu_of hr) (pv 0) pe_str (fun _ _ => rfl)))
    (pss_cons (ps_if (pt_cmpR op_lt (pe_callB call_len_seq (by rfl) T.z_len (by decide +kernel) (pa_cons (pv 1) pa_nil)) pe_int (nomark _))
      (pss_one (ps_ret pe_bl))
      pss_nil)
    (pss_cons (ps_set (i := 2) sc__law_three.nd rfl (Or.inl rfl) (pe_lstN pa_nil))
    (pss_cons (ps_set (i := 3) sc__law_three.nd rfl (Or.inl rfl) (pe_ix ix_list (pv 1) pe_int (fun _ _ => rfl)))
    (pss_cons (ps_set (i := 4) sc__law_three.nd rfl (Or.inl rfl) (pe_ix ix_list (pv 1) pe_int (fun _ _ => rfl)))
    (pss_cons (ps_set (i := 5) sc__law_three.nd rfl (Or.inl rfl) (pe_ix ix_list (pv 1) pe_int (fun _ _ => rfl)))
    (pss_cons (ps_for PassesOwn.never rfl (pi_list (pe_lstN (pa_cons (pe_lstN (pa_cons (pe_tupN (pa_cons (pv 3) (pa_cons (pv 4) pa_nil))) (pa_cons (pe_tupN (pa_cons (pv 3) (pa_cons (pv 5) pa_nil))) pa_nil))) (pa_cons (pe_lstN (pa_cons (pe_tupN (pa_cons (pv 3) (pa_cons (pv 5) pa_nil))) (pa_cons (pe_tupN (pa_cons (pv 3) (pa_cons (pv 4) pa_nil))) pa_nil))) (pa_cons (pe_lstN (pa_cons (pe_tupN (pa_cons (pv 4) (pa_cons (pv 5) pa_nil))) (pa_cons (pe_tupN (pa_cons (pv 3) (pa_cons (pv 4) pa_nil))) pa_nil))) pa_nil))))) (pg_name (i := 6) sc__law_three.nd rfl (Or.inl rfl))
      (pss_cons (ps_set (i := 7) sc__law_three.nd rfl (Or.inl rfl) (pe_tupN (pa_cons (pe_dget (hu_of hr) (pv 0) pe_str (fun _ _ => rfl)) (pa_cons (pe_dget (hu_of hr) (pv 0) pe_str (fun _ _ => rfl)) pa_nil))))
      (pss_cons (ps_for PassesOwn.never rfl (pi_list (pv 6)) (pg_name (i := 8) sc__law_three.nd rfl (Or.inl rfl))
        (pss_cons (ps_set (i := 9) sc__law_three.nd rfl (Or.inl rfl) (pe_call (G__law_pooled) hr (by rfl) T.g__law_pooled T.k__law_pooled T.b__law_pooled .nil pass0 (pa_cons (pe_ix ix_tup (pv 7) pe_int (fun _ _ => rfl)) (pa_cons (pe_ix ix_tup (pv 7) pe_int (fun _ _ => rfl)) (pa_cons (pe_ix ix_tup (pv 8) pe_int (fun _ _ => rfl)) (pa_cons (pe_ix ix_tup (pv 8) pe_int (fun _ _ => rfl)) pa_nil))))))
        (pss_cons (ps_if (PW.pt (pw_or (pt_val (pe_callB call_isi (by rfl) T.z_isinstance (by decide +kernel) (pa_cons (pv 9) (pa_cons (pe_bltn (v := .ty "list") (by rfl) T.z_list (by decide +kernel) rfl) pa_nil)))) (pw_or1 (pt_not (pt_val (pe_call (G__law_agrees) hr (by rfl) T.g__law_agrees T.k__law_agrees T.b__law_agrees .nil pass0 (pa_cons (pe_call (G__law_tried) hr (by rfl) T.g__law_tried T.k__law_tried T.b__law_tried .nil pass0 (pa_cons pe_int (pa_cons (pe_ix ix_tup (pv 7) pe_int (fun _ _ => rfl)) (pa_cons (pe_ix ix_tup (pv 7) pe_int (fun _ _ => rfl)) (pa_cons (pe_ix ix_tup (pv 8) pe_int (fun _ _ => rfl)) (pa_cons (pe_ix ix_tup (pv 8) pe_int (fun _ _ => rfl)) pa_nil)))))) (pa_cons (pv 9) pa_nil))))))))
          (pss_one (ps_ret pe_bl))
          pss_nil)
        (pss_one (ps_set (i := 7) sc__law_three.nd rfl (Or.inl rfl) (pe_ix ix_tup (pv 9) pe_int (fun _ _ => rfl)))))))
      (pss_one (ps_expr (pe_bm PySem.F.plainAttrs_list PySem.F.slot_list_append PySem.F.type_list_append mt_append (pv 2) (pa_cons (pv 7) pa_nil)))))))
    (pss_one (ps_ret (pe_and (pe_call (G__law_least) hr (by rfl) T.g__law_least T.k__law_least T.b__law_least .nil pass0 (pa_cons (pe_ix ix_tup (pe_ix ix_list (pv 2) pe_int (fun _ _ => rfl)) pe_int (fun _ _ => rfl)) (pa_cons (pe_ix ix_tup (pe_ix ix_list (pv 2) pe_int (fun _ _ => rfl)) pe_int (fun _ _ => rfl)) pa_nil))) (pe_and (pe_call (G__law_same) hr (by rfl) T.g__law_same T.k__law_same T.b__law_same .nil pass0 (pa_cons (pe_ix ix_list (pv 2) pe_int (fun _ _ => rfl)) (pa_cons (pe_ix ix_list (pv 2) pe_int (fun _ _ => rfl)) pa_nil))) (pe_one (pe_call (G__law_same) hr (by rfl) T.g__law_same T.k__law_same T.b__law_same .nil pass0 (pa_cons (pe_ix ix_list (pv 2) pe_int (fun _ _ => rfl)) (pa_cons (pe_ix ix_list (pv 2) pe_int (fun _ _ => rfl)) pa_nil))))))))))))))), ?_⟩
  refine ⟨_, rfl, S, .ref G, rfl, st.gGroup, ?_⟩
  refine ⟨_, rfl, G, _, rfl, .inl (SqL.of st.hg), _, _, rfl, rfl, _, rfl, iteB (fun _ => q H (Kp.refl _) st.pool) (fun c1 => ?_)⟩
  have g3 : 3 ≤ group.length := by
    have : ¬ (((group.map V.str).length : Nat) : Int) < 3 := of_decide_eq_false c1
    rw [List.length_map] at this
    omega
  refine ⟨Nat.zero_le _, fun H1 L s1 nL hL => ?_⟩
  have st1 := st.sm s1
  obtain ⟨a, ea⟩ : ∃ x, group[0]? = some x := ⟨_, List.getElem?_eq_getElem (by omega)⟩
  obtain ⟨b, eb⟩ : ∃ x, group[1]? = some x := ⟨_, List.getElem?_eq_getElem (by omega)⟩
  obtain ⟨d, ed⟩ : ∃ x, group[2]? = some x := ⟨_, List.getElem?_eq_getElem (by omega)⟩
  have nd := st.grp.1
  have ne : ∀ {i j : Nat} {x y : Str}, group[i]? = some x → group[j]? = some y → i ≠ j → x ≠ y := fun {i j x y} h1 h2 nij e => by
    obtain ⟨l1, e1⟩ := List.getElem?_eq_some_iff.mp h1
    obtain ⟨l2, e2⟩ := List.getElem?_eq_some_iff.mp h2
    rcases Nat.lt_or_gt_of_ne nij with h | h
    · exact List.pairwise_iff_getElem.mp nd i j l1 l2 h (by rw [e1, e2, e])
    · exact List.pairwise_iff_getElem.mp nd j i l2 l1 h (by rw [e1, e2, e])
  have ab := ne ea eb (by decide)
  have ad := ne ea ed (by decide)
  have bd := ne eb ed (by decide)
  have at_ : ∀ {i : Nat} {x : Str}, group[i]? = some x → atI (group.map V.str) (i : Int) = some (.str x) := fun h => atI_nat (by rw [List.getElem?_map, h]; rfl)
  refine ⟨_, rfl, G, _, 0, .str a, rfl, rfl, SqL.of st1.hg, at_ ea, _, rfl, G, _, 1, .str b, rfl, rfl, SqL.of st1.hg, at_ eb, _, rfl, G, _, 2, .str d, rfl, rfl, SqL.of st1.hg, at_ ed, ?_⟩
  obtain ⟨C, T3, w1, w2, w3⟩ := roads pr st.grp (List.mem_of_getElem? ea) (List.mem_of_getElem? eb) (List.mem_of_getElem? ed) ab ad bd
  -- the roads
  refine ⟨_, rfl, _, rfl, (by show 2 ≤ 1000; decide), fun H2 p2 s2 n2 h2 => ⟨_, rfl, _, rfl, (by show 2 ≤ 1000; decide), fun H3 p3 s3 n3 h3 => ⟨(by show 2 ≤ 1000; decide), fun H4 r4 s4 n4 h4 => ?_⟩⟩⟩
  refine ⟨_, rfl, _, rfl, (by show 2 ≤ 1000; decide), fun H5 p5 s5 n5 h5 => ⟨_, rfl, _, rfl, (by show 2 ≤ 1000; decide), fun H6 p6 s6 n6 h6 => ⟨(by show 2 ≤ 1000; decide), fun H7 r7 s7 n7 h7 => ?_⟩⟩⟩
  refine ⟨_, rfl, _, rfl, (by show 2 ≤ 1000; decide), fun H8 p8 s8 n8 h8 => ⟨_, rfl, _, rfl, (by show 2 ≤ 1000; decide), fun H9 p9 s9 n9 h9 => ⟨(by show 2 ≤ 1000; decide), fun H10 r10 s10 n10 h10 => ?_⟩⟩⟩
  refine ⟨(by show 3 ≤ 1000; decide), fun H11 R s11 nR hR => ⟨R, rfl, ⟨_, SqL.of hR⟩, ?_⟩⟩
  have t11 : Same H10 H11 := s11
  have t9 := s10.trans t11
  have t8 := s9.trans t9
  have t7 := s8.trans t8
  have t6 := s7.trans t7
  have t5 := s6.trans t6
  have t4 := s5.trans t5
  have t3 := s4.trans t4
  have t2 := s3.trans t3
  have t1 := s2.trans t2
  have road : ∀ (i : Nat) (z : V), [V.ref r4, V.ref r7, V.ref r10][i]? = some z → ∃ (r u v : Addr) (p p' : Str × Str), z = .ref r ∧ H11 r = some (.lst [.ref u, .ref v]) ∧ SqT K H11 u [.str p.1, .str p.2] ∧ SqT K H11 v [.str p'.1, .str p'.2] ∧ Road c t p p' C T3 := fun i z h => by
    match i, h with
    | 0, h => cases h; exact ⟨r4, p2, p3, (a, b), (a, d), rfl, t4 _ _ h4, t2.seqT (SqT.of h2), t3.seqT (SqT.of h3), w1⟩
    | 1, h => cases h; exact ⟨r7, p5, p6, (a, d), (a, b), rfl, t7 _ _ h7, t5.seqT (SqT.of h5), t6.seqT (SqT.of h6), w2⟩
    | 2, h => cases h; exact ⟨r10, p8, p9, (b, d), (a, b), rfl, t9.trans (Same.refl _) |>.trans (Same.refl _) |> fun _ => t11 _ _ h10, t8.seqT (SqT.of h8), t9.seqT (SqT.of h9), w3⟩
    | i + 3, h => cases h
  have hL11 := t1 _ _ hL
  have st11 := st1.sm t1
  have hold : ∀ {Hx : Hp}, Kp [L] H11 Hx → Same H Hx := fun k => Same.kp (s1.trans t1) k nL
  refine for_list (xs := [.ref r4, .ref r7, .ref r10]) (fun i σ' H' => ∃ (y6 y7 y8 y9 : Option V) (ws : List V), σ' = [some (.ref S), some (.ref G), some (.ref L), some (.str a), some (.str b), some (.str d), y6, y7, y8, y9] ∧ Kp [L] H11 H' ∧ H' L = some (.lst ws) ∧ ws.length = i ∧ ∀ x ∈ ws, Dp K H' x (pairD C T3))
    ⟨none, none, none, none, [], rfl, Kp.refl _, hL11, rfl, fun x m => by cases m⟩ ?_ ?_ ?_
  · rintro i σ' H' _ ⟨_, _, _, _, _, _, k', _⟩
    refine k'.seqL (lone ?_) (SqL.of hR)
    rintro rfl
    rw [((((((((s2.trans s3).trans s4).trans s5).trans s6).trans s7).trans s8).trans s9).trans s10) _ _ hL] at nR
    cases nR
  · rintro i z σ' H12 hi ⟨y6, y7, y8, y9, ws, rfl, k12, hL12, lw, hws⟩
    obtain ⟨r, u, v, p, p', rfl, hr11, hu11, hv11, c1, t1', e1, pr1, e2, pr2⟩ := road i z hi
    have st12 := st.sm (hold k12)
    have ltL := Lsts.one hL11
    have hrL : r ≠ L := by
      intro z
      rw [z, hL11] at hr11
      cases hr11
    have hr12 := k12 _ _ (lone hrL) hr11
    have hu12 := k12.seqT ltL hu11
    have hv12 := k12.seqT ltL hv11
    refine ⟨_, rfl, S, vc, rfl, st12.gClaim, _, rfl, S, vt, rfl, st12.gTree, (by show 2 ≤ 1000; decide), fun H13 m0 s13 nm hm => ?_⟩
    have made0 : Dp K H13 (.ref m0) (pairD c t) := .tup (SqT.of hm) (.cons (Dp.sm s13 _ _ st12.hc) (.cons (Dp.sm s13 _ _ st12.ht) .nil))
    refine ⟨_, rfl, r, rfl, ⟨_, SqL.of (s13 _ _ hr12)⟩, ?_⟩
    -- one turn
    have turn : ∀ (j : Nat) (x : V), [V.ref u, V.ref v][j]? = some x → ∃ (g : Addr) (pp : Str × Str) (ca cb : Clm) (ta tb : Row), x = .ref g ∧ SqT K H13 g [.str pp.1, .str pp.2] ∧ (if j = 0 then (c, t) else (c1, t1')) = (ca, ta) ∧ (if j = 0 then (c1, t1') else (C, T3)) = (cb, tb) ∧ poolA ca ta pp.1 pp.2 = .told (pairD cb tb) ∧ Pr ca ta := fun j x h => by
      match j, h with
      | 0, h => cases h; exact ⟨u, p, c, c1, t, t1', rfl, s13.seqT hu12, rfl, rfl, e1, pr⟩
      | 1, h => cases h; exact ⟨v, p', c1, C, t1', T3, rfl, s13.seqT hv12, rfl, rfl, e2, pr1⟩
      | j + 2, h => cases h
    refine for_list (xs := [.ref u, .ref v]) (fun j σ' H' => ∃ (y8 y9 : Option V) (mv : V), σ' = [some (.ref S), some (.ref G), some (.ref L), some (.str a), some (.str b), some (.str d), some (.ref r), some mv, y8, y9] ∧ Same H13 H' ∧ Dp K H' mv (if j = 0 then pairD c t else if j = 1 then pairD c1 t1' else pairD C T3))
      ⟨y8, y9, .ref m0, rfl, Same.refl _, made0⟩ ?_ ?_ ?_
    · rintro j σ' H' _ ⟨_, _, _, _, s', _⟩
      exact s'.seq (SqL.of (s13 _ _ hr12))
    · rintro j x σ' H14 hj ⟨y8, y9, mv, rfl, s14, hmv⟩
      obtain ⟨g, pp, ca, cb, ta, tb, rfl, hg, ej, ek, ep, pra⟩ := turn j x hj
      have hj2 : j < 2 := by
        have := (List.getElem?_eq_some_iff.mp hj).1
        exact this
      have hmv' : Dp K H14 mv (pairD ca ta) := by
        by_cases z : j = 0
        · rw [if_pos z] at ej hmv
          cases ej
          exact hmv
        · rw [if_neg z] at ej hmv
          cases ej
          rw [if_pos (show j = 1 by omega)] at hmv
          exact hmv
      obtain ⟨pm, x0, x1, rfl, hpm, hx0, hx1⟩ := pair_at hmv'
      have hg14 := s14.seqT hg
      have tha := pra.th
      refine ⟨_, rfl, pm, _, 0, x0, rfl, rfl, hpm, atI_at (j := 0) rfl rfl, _, rfl, pm, _, 1, x1, rfl, rfl, hpm, atI_at (j := 1) rfl rfl, _, rfl, g, _, 0, .str pp.1, rfl, rfl, hg14, atI_at (j := 0) rfl rfl, _, rfl, g, _, 1, .str pp.2, rfl, rfl, hg14, atI_at (j := 1) rfl rfl, x0, x1, ca, ta, pp.1, pp.2, rfl, hx0, hx1, by omega, pra.ok, fun H15 r15 s15 due => ?_⟩
      obtain ⟨pd, wd, rfl, hpd, hwd⟩ : ∃ pd wd, r15 = .ref pd ∧ SqT K H15 pd [.str "told", wd] ∧ Dp K H15 wd (pairD cb tb) := by
        have due' := due
        rw [ep] at due'
        exact due'
      refine ⟨_, rfl, _, _, _, _, _, rfl, .ty _, ty_tup hpd, kit_tl, _, rfl, iteF ?_⟩
      have hpm15 := s15.seqT hpm
      have hg15 := s15.seqT hg14
      refine ⟨_, rfl, pm, _, 0, x0, rfl, rfl, hpm15, atI_at (j := 0) rfl rfl, _, rfl, pm, _, 1, x1, rfl, rfl, hpm15, atI_at (j := 1) rfl rfl, _, rfl, g, _, 0, .str pp.1, rfl, rfl, hg15, atI_at (j := 0) rfl rfl, _, rfl, g, _, 1, .str pp.2, rfl, rfl, hg15, atI_at (j := 1) rfl rfl, x0, x1, ca, pp.1, poolA ca ta pp.1 pp.2, Dp.sm s15 _ _ hx0, pra.ok, fun H16 r16 s16 tr => ?_, .inl ⟨ta, pp.2, rfl, Dp.sm s15 _ _ hx1, by omega, rfl⟩⟩
      refine ⟨_, rfl, r16, .ref pd, poolA ca ta pp.1 pp.2, rfl, tr, due.sm s16, small_pool pp.1 pp.2 pra, fun H17 s17 => ⟨_, rfl, iteF ?_⟩⟩
      have s67 := s16.trans s17
      refine ⟨_, rfl, pd, _, 1, wd, rfl, rfl, s67.seqT hpd, atI_at (j := 1) rfl rfl, ?_⟩
      refine ⟨_, _, wd, rfl, s14.trans (s15.trans s67), ?_⟩
      have hw := Dp.sm s67 _ _ hwd
      rw [if_neg (Nat.succ_ne_zero j)]
      by_cases z : j = 0
      · subst z
        rw [if_pos rfl] at ek
        cases ek
        exact hw
      · rw [if_neg z] at ek
        cases ek
        rw [if_neg (show ¬ j + 1 = 1 by omega)]
        exact hw
    · rintro σ' H14 ⟨y8, y9, mv, rfl, s14, hmv⟩
      have hmv' : Dp K H14 mv (pairD C T3) := hmv
      have s1214 := s13.trans s14
      have hL14 := s1214 _ _ hL12
      refine ⟨_, rfl, .inl ⟨rfl, ws, SqL.of hL14⟩, _, rfl, L, ws, _, rfl, rfl, hL14, sz_lt (by have := (List.getElem?_eq_some_iff.mp hi).1; have : i < 3 := this; omega), ?_⟩
      have kL : Kp [L] H14 (upd H14 L (.lst (ws ++ [mv]))) := Kp.wr (.head _)
      have tuP : tu (pairD C T3) = true := by
        show (tu C.d && (tu T3.d && true)) = true
        rw [C.tu, T3.tu]; rfl
      refine ⟨_, _, _, _, ws ++ [mv], rfl, (k12.trans (Kp.of s1214)).trans kL, upd_same, by rw [List.length_append, lw]; rfl, fun x m => ?_⟩
      rcases List.mem_append.mp m with m | m
      · exact Dp.kp kL (Lsts.one hL14) _ _ tuP (Dp.sm s1214 _ _ (hws x m))
      · rw [List.mem_singleton.mp m]
        exact Dp.kp kL (Lsts.one hL14) _ _ tuP hmv'
  · rintro σ' H12 ⟨y6, y7, y8, y9, ws, rfl, k12, hL12, lw, hws⟩
    have lw3 : ws.length = 3 := lw
    obtain ⟨x0, f0⟩ : ∃ x, ws[0]? = some x := ⟨_, List.getElem?_eq_getElem (by omega)⟩
    obtain ⟨x1, f1⟩ : ∃ x, ws[1]? = some x := ⟨_, List.getElem?_eq_getElem (by omega)⟩
    obtain ⟨x2, f2⟩ : ∃ x, ws[2]? = some x := ⟨_, List.getElem?_eq_getElem (by omega)⟩
    have d0 := hws x0 (List.mem_of_getElem? f0)
    have d1 := hws x1 (List.mem_of_getElem? f1)
    have d2 := hws x2 (List.mem_of_getElem? f2)
    obtain ⟨pm, m0, m1, rfl, hm, hm0, hm1⟩ := pair_at d0
    obtain ⟨_, _, _, _, _, prC⟩ := w1
    have sm : (Ans.told (pairD C T3)).small := pair_small (Nat.le_trans prC.few (by decide)) (fun o m => (prC.all o m).1.2) prC.goal (by have := prC.td; omega)
    obtain ⟨sp, sd⟩ := sm
    have hS := SqL.of (K := K) hL12
    refine ⟨_, rfl, L, ws, 0, .ref pm, rfl, rfl, hS, atI_at (j := 0) rfl f0, pm, _, 0, m0, rfl, rfl, hm, atI_at (j := 0) rfl rfl, _, rfl, L, ws, 0, .ref pm, rfl, rfl, hS, atI_at (j := 0) rfl f0, pm, _, 1, m1, rfl, rfl, hm, atI_at (j := 1) rfl rfl, m0, m1, C, T3, rfl, hm0, hm1, prC, fun H13 s13 => ⟨_, rfl, iteT ?_⟩⟩
    refine ⟨_, rfl, L, ws, 1, x1, rfl, rfl, s13.seq hS, atI_at (j := 1) rfl f1, _, rfl, L, ws, 0, .ref pm, rfl, rfl, s13.seq hS, atI_at (j := 0) rfl f0, x1, .ref pm, _, rfl, Dp.sm s13 _ _ d1, Dp.sm s13 _ _ d0, sp, by omega, fun H14 s14 => ⟨_, rfl, iteT ?_⟩⟩
    have s24 := s13.trans s14
    refine ⟨_, rfl, L, ws, 2, x2, rfl, rfl, s24.seq hS, atI_at (j := 2) rfl f2, _, rfl, L, ws, 0, .ref pm, rfl, rfl, s24.seq hS, atI_at (j := 0) rfl f0, x2, .ref pm, _, rfl, Dp.sm s24 _ _ d2, Dp.sm s24 _ _ d0, sp, by omega, fun H15 s15 => ?_⟩
    have sH := (hold k12).trans (s24.trans s15)
    exact q H15 (Kp.of sH) (st.sm sH).pool
def spLaw (K : PySem.W.Frag) : Sp := fun vs H Q _ => ∃ (a : Addr) (ns : List Int), vs = [.ref a] ∧ SqL K H a (ns.map V.int) ∧ ∀ H', Q (.bl true) H'
theorem ok_law (T : Tx K w mg) {k : Nat} : FnOk P w K mg base CX0 (k + 94) T.a_law T.d_law ["script"] (spLaw K) := by
  have G__law_begin := ok_begin (P := P) (base := base) T (k := k + 22)
  have G__law_least := ok_least (P := P) (base := base) T (k := k + 12)
  have G__law_singles := ok_singles (P := P) (base := base) T (k := k + 22)
  have G__law_joins := ok_joins (P := P) (base := base) T (k := k)
  have G__law_three := ok_three (P := P) (base := base) T (k := k)
  have G__law_lifted := ok_lifted (P := P) (base := base) T (k := k)
  have G__law_rooms := ok_rooms (P := P) (base := base) T (k := k)
  refine T.F_law.ok sc_law (fun vs H Q E h => ?_) (fun cdv A outer s H vs Q E hr h => ?_)
  · obtain ⟨a, ns, rfl, _⟩ := h
    rfl
  obtain ⟨a, ns, rfl, ha, q⟩ := h
  refine ⟨_, (pss_cons (ps_set (i := 1) sc_law.nd rfl (Or.inl rfl) (pe_call (G__law_begin) hr (by rfl) T.g__law_begin T.k__law_begin T.b__law_begin .nil pass0 (pa_cons (pv 0) pa_nil)))
    (pss_cons (ps_set (i := 2) sc_law.nd rfl (Or.inl rfl) (pe_dget (hu_of hr) (pv 1) pe_str (fun _ _ => rfl)))
    (pss_cons (ps_set (i := 3) sc_law.nd rfl (Or.inl rfl) (pe_dget (hu_of hr) (pv 1) pe_str (fun _ _ => rfl)))
    (pss_cons (ps_if (PW.pt (pw_or (pt_not (pt_val (pe_call (G__law_least) hr (by rfl) T.g__law_least T.k__law_least T.b__law_least .nil pass0 (pa_cons (pv 2) (pa_cons (pv 3) pa_nil))))) (pw_or1 (pt_not (pt_val (pe_call (G__law_singles) hr (by rfl) T.g__law_singles T.k__law_singles T.b__law_singles .nil pass0 (pa_cons (pv 2) (pa_cons (pv 3) pa_nil))))))))
      (pss_one (ps_ret pe_bl))
      pss_nil)
    (pss_cons (ps_if (PW.pt (pw_or (pt_not (pt_val (pe_call (G__law_joins) hr (by rfl) T.g__law_joins T.k__law_joins T.b__law_joins .nil pass0 (pa_cons (pv 1) pa_nil)))) (pw_or1 (pt_not (pt_val (pe_call (G__law_three) hr (by rfl) T.g__law_three T.k__law_three T.b__law_three .nil pass0 (pa_cons (pv 1) pa_nil)))))))
      (pss_one (ps_ret pe_bl))
      pss_nil)
    (pss_one (ps_ret (pe_and (pe_call (G__law_lifted) hr (by rfl) T.g__law_lifted T.k__law_lifted T.b__law_lifted .nil pass0 (pa_cons (pv 1) pa_nil)) (pe_and (pe_call (G__law_rooms) hr (by rfl) T.g__law_rooms T.k__law_rooms T.b__law_rooms .nil pass0 (pa_cons (pv 1) pa_nil)) (pe_one (pe_call (G__law_least) hr (by rfl) T.g__law_least T.k__law_least T.b__law_least .nil pass0 (pa_cons (pv 2) (pa_cons (pv 3) pa_nil))))))))))))), ?_⟩
  refine ⟨_, rfl, a, ns, rfl, ha, fun H1 S l Nm G names group vc vt c t times st => ?_⟩
  have pr := st.pr
  refine ⟨_, rfl, S, vc, rfl, st.gClaim, _, rfl, S, vt, rfl, st.gTree, ?_⟩
  refine ⟨_, rfl, _, rfl, vc, vt, c, t, rfl, st.hc, st.ht, pr, fun H2 s2 => ⟨_, rfl, iteF ?_⟩⟩
  have st2 := st.sm s2
  refine ⟨_, rfl, _, rfl, vc, vt, c, t, rfl, st2.hc, st2.ht, pr, fun H3 s3 => ⟨_, rfl, iteF ?_⟩⟩
  have st3 := st2.sm s3
  refine ⟨_, rfl, S, l, Nm, G, names, group, vc, vt, c, t, times, rfl, st3, fun H4 k4 p4 => ⟨_, rfl, iteF ?_⟩⟩
  have st4 := st3.kp k4 p4
  refine ⟨_, rfl, S, l, Nm, G, names, group, vc, vt, c, t, times, rfl, st4, fun H5 k5 p5 => ⟨_, rfl, iteF ?_⟩⟩
  have st5 := st4.kp k5 p5
  refine ⟨_, rfl, S, l, Nm, G, names, group, vc, vt, c, t, times, rfl, st5, fun H6 k6 p6 => ⟨_, rfl, iteT ?_⟩⟩
  have st6 := st5.kp k6 p6
  refine ⟨_, rfl, S, l, Nm, G, names, group, vc, vt, c, t, times, rfl, st6, fun H7 k7 p7 => ⟨_, rfl, iteT ?_⟩⟩
  have st7 := st6.kp k7 p7
  exact ⟨_, rfl, _, rfl, vc, vt, c, t, rfl, st7.hc, st7.ht, pr, fun H8 s8 => q H8⟩
end
end HA

namespace HA
open PySem PySem.Spec PyProof.Rows L2
theorem fund_counts {K : PySem.W.Frag} {f TT : Addr} {oc : Value} {od an : Option Addr} {osl : Array (Option Value)} {kV doc pm cdv ct tc : Value} {td : Option Addr} {tk : Tok} {tn : Nat} {tsl : Array (Option Value)}
    (l : K.lookup f = some ⟨oc, od, .func (PySem.W.fnOf "counts" "counts" (defArgs s_counts) (defBody s_counts) (defScope s_counts) (.ref TT) kV doc pm an cdv ct), osl⟩) (c : PySem.W.codeIn K cdv "counts" = true) (k : PySem.W.keepIn K (.ref f) = true)
    (lt : K.lookup TT = some ⟨tc, td, .seq #[.int 0 tk] tn, tsl⟩) : FunD K "counts" "counts" (defArgs s_counts) (defBody s_counts) (defScope s_counts) [V.int 0] [] f (PySem.W.fnOf "counts" "counts" (defArgs s_counts) (defBody s_counts) (defScope s_counts) (.ref TT) kV doc pm an cdv ct) :=
  ⟨⟨oc, od, .ref TT, kV, doc, pm, an, cdv, ct, osl, rfl, l, c, .inr ⟨by simp, TT, _, [.int 0 tk], tn, rfl, lt, rfl, .cons ⟨tk, rfl⟩ .nil⟩, .inl rfl⟩, k⟩
theorem counts_d {K : PySem.W.Frag} {f : Addr} {fd : FuncData} (F : FunD K "counts" "counts" (defArgs s_counts) (defBody s_counts) (defScope s_counts) [V.int 0] [] f fd) : ∃ ds, Vals [V.int 0] ds ∧ Binds K fd ["derivation", "level"] ds :=
  F.binds1 1 0 (by simp) rfl fun T kV doc pm an cdv ct us its hl h2 => match us, hl, its, h2 with | [_], _, [_], _ => ⟨_, rfl, rfl⟩
theorem counts_b {K : PySem.W.Frag} {f : Addr} {fd : FuncData} (F : FunD K "counts" "counts" (defArgs s_counts) (defBody s_counts) (defScope s_counts) [V.int 0] [] f fd) : Binds K fd ["derivation", "level"] [] := by
  obtain ⟨ds, h, b⟩ := F.binds1 (ps := ["derivation", "level"]) 2 1 (by simp) rfl fun T kV doc pm an cdv ct us its hl h2 => match us, hl, its, h2 with | [_, _], _, [_], _ => ⟨_, rfl, rfl⟩
  cases h
  exact b
theorem trade_kb {K : PySem.W.Frag} {f : Addr} {fd : FuncData} (F : Fun K "trade" "trade" s_trade f fd) : KBn K fd ["price", "goods", "kind"] 2 ["kind"] (fun us ws => us ++ ws) (fun vs zs => vs ++ zs) := by
  obtain ⟨oc, od, kV, doc, pm, an, cdv, ct, osl, e, lk, hcd⟩ := F.ex
  subst e
  refine ⟨fun s us ws _ l1 l2 => ?_, fun r1 r2 => Vals.append r1 r2⟩
  match us, l1, ws, l2 with
  | [a, b], _, [c], _ => exact .of_eq rfl
noncomputable def all_tx {w : World} {K : PySem.W.Frag} {h : Heap} {mg : Str → Option Value} (X : K.In h) (G : h.Ns mainGlobals mg)
    {f0 : Addr} {oc0 kV0 dc0 pm0 cd0 ct0 : Value} {od0 an0 : Option Addr} {sl0 : Array (Option Value)}
    (a0 : PySem.W.nsIn K mainGlobals "_wall" = some (some (.ref f0)))
    (l0 : K.lookup f0 = some ⟨oc0, od0, .func (PySem.W.fnOf "_wall" "_wall" (defArgs s__wall) (defBody s__wall) (defScope s__wall) .none kV0 dc0 pm0 an0 cd0 ct0), sl0⟩)
    (c0 : PySem.W.codeIn K cd0 "_wall" = true) (k0 : PySem.W.keepIn K (.ref f0) = true)
    {f1 : Addr} {oc1 kV1 dc1 pm1 cd1 ct1 : Value} {od1 an1 : Option Addr} {sl1 : Array (Option Value)}
    (a1 : PySem.W.nsIn K mainGlobals "is_number" = some (some (.ref f1)))
    (l1 : K.lookup f1 = some ⟨oc1, od1, .func (PySem.W.fnOf "is_number" "is_number" (defArgs s_is_number) (defBody s_is_number) (defScope s_is_number) .none kV1 dc1 pm1 an1 cd1 ct1), sl1⟩)
    (c1 : PySem.W.codeIn K cd1 "is_number" = true) (k1 : PySem.W.keepIn K (.ref f1) = true)
    {f2 : Addr} {oc2 kV2 dc2 pm2 cd2 ct2 : Value} {od2 an2 : Option Addr} {sl2 : Array (Option Value)}
    (a2 : PySem.W.nsIn K mainGlobals "is_kind" = some (some (.ref f2)))
    (l2 : K.lookup f2 = some ⟨oc2, od2, .func (PySem.W.fnOf "is_kind" "is_kind" (defArgs s_is_kind) (defBody s_is_kind) (defScope s_is_kind) .none kV2 dc2 pm2 an2 cd2 ct2), sl2⟩)
    (c2 : PySem.W.codeIn K cd2 "is_kind" = true) (k2 : PySem.W.keepIn K (.ref f2) = true)
    {f3 : Addr} {oc3 kV3 dc3 pm3 cd3 ct3 : Value} {od3 an3 : Option Addr} {sl3 : Array (Option Value)}
    (a3 : PySem.W.nsIn K mainGlobals "nested" = some (some (.ref f3)))
    (l3 : K.lookup f3 = some ⟨oc3, od3, .func (PySem.W.fnOf "nested" "nested" (defArgs s_nested) (defBody s_nested) (defScope s_nested) .none kV3 dc3 pm3 an3 cd3 ct3), sl3⟩)
    (c3 : PySem.W.codeIn K cd3 "nested" = true) (k3 : PySem.W.keepIn K (.ref f3) = true)
    {f4 : Addr} {oc4 kV4 dc4 pm4 cd4 ct4 : Value} {od4 an4 : Option Addr} {sl4 : Array (Option Value)}
    (a4 : PySem.W.nsIn K mainGlobals "pooled" = some (some (.ref f4)))
    (l4 : K.lookup f4 = some ⟨oc4, od4, .func (PySem.W.fnOf "pooled" "pooled" (defArgs s_pooled) (defBody s_pooled) (defScope s_pooled) .none kV4 dc4 pm4 an4 cd4 ct4), sl4⟩)
    (c4 : PySem.W.codeIn K cd4 "pooled" = true) (k4 : PySem.W.keepIn K (.ref f4) = true)
    {f5 : Addr} {oc5 kV5 dc5 pm5 cd5 ct5 : Value} {od5 an5 : Option Addr} {sl5 : Array (Option Value)}
    (a5 : PySem.W.nsIn K mainGlobals "covers" = some (some (.ref f5)))
    (l5 : K.lookup f5 = some ⟨oc5, od5, .func (PySem.W.fnOf "covers" "covers" (defArgs s_covers) (defBody s_covers) (defScope s_covers) .none kV5 dc5 pm5 an5 cd5 ct5), sl5⟩)
    (c5 : PySem.W.codeIn K cd5 "covers" = true) (k5 : PySem.W.keepIn K (.ref f5) = true)
    {f6 : Addr} {oc6 kV6 dc6 pm6 cd6 ct6 : Value} {od6 an6 : Option Addr} {sl6 : Array (Option Value)}
    (a6 : PySem.W.nsIn K mainGlobals "trade" = some (some (.ref f6)))
    (l6 : K.lookup f6 = some ⟨oc6, od6, .func (PySem.W.fnOf "trade" "trade" (defArgs s_trade) (defBody s_trade) (defScope s_trade) .none kV6 dc6 pm6 an6 cd6 ct6), sl6⟩)
    (c6 : PySem.W.codeIn K cd6 "trade" = true) (k6 : PySem.W.keepIn K (.ref f6) = true)
    {f7 : Addr} {oc7 kV7 dc7 pm7 cd7 ct7 : Value} {od7 an7 : Option Addr} {sl7 : Array (Option Value)}
    (a7 : PySem.W.nsIn K mainGlobals "hold_of" = some (some (.ref f7)))
    (l7 : K.lookup f7 = some ⟨oc7, od7, .func (PySem.W.fnOf "hold_of" "hold_of" (defArgs s_hold_of) (defBody s_hold_of) (defScope s_hold_of) .none kV7 dc7 pm7 an7 cd7 ct7), sl7⟩)
    (c7 : PySem.W.codeIn K cd7 "hold_of" = true) (k7 : PySem.W.keepIn K (.ref f7) = true)
    {f8 : Addr} {oc8 kV8 dc8 pm8 cd8 ct8 : Value} {od8 an8 : Option Addr} {sl8 : Array (Option Value)}
    (a8 : PySem.W.nsIn K mainGlobals "without_hold" = some (some (.ref f8)))
    (l8 : K.lookup f8 = some ⟨oc8, od8, .func (PySem.W.fnOf "without_hold" "without_hold" (defArgs s_without_hold) (defBody s_without_hold) (defScope s_without_hold) .none kV8 dc8 pm8 an8 cd8 ct8), sl8⟩)
    (c8 : PySem.W.codeIn K cd8 "without_hold" = true) (k8 : PySem.W.keepIn K (.ref f8) = true)
    {f9 : Addr} {oc9 kV9 dc9 pm9 cd9 ct9 : Value} {od9 an9 : Option Addr} {sl9 : Array (Option Value)}
    (a9 : PySem.W.nsIn K mainGlobals "added" = some (some (.ref f9)))
    (l9 : K.lookup f9 = some ⟨oc9, od9, .func (PySem.W.fnOf "added" "added" (defArgs s_added) (defBody s_added) (defScope s_added) .none kV9 dc9 pm9 an9 cd9 ct9), sl9⟩)
    (c9 : PySem.W.codeIn K cd9 "added" = true) (k9 : PySem.W.keepIn K (.ref f9) = true)
    {f10 : Addr} {oc10 kV10 dc10 pm10 cd10 ct10 : Value} {od10 an10 : Option Addr} {sl10 : Array (Option Value)}
    (a10 : PySem.W.nsIn K mainGlobals "either" = some (some (.ref f10)))
    (l10 : K.lookup f10 = some ⟨oc10, od10, .func (PySem.W.fnOf "either" "either" (defArgs s_either) (defBody s_either) (defScope s_either) .none kV10 dc10 pm10 an10 cd10 ct10), sl10⟩)
    (c10 : PySem.W.codeIn K cd10 "either" = true) (k10 : PySem.W.keepIn K (.ref f10) = true)
    {f11 : Addr} {oc11 kV11 dc11 pm11 cd11 ct11 : Value} {od11 an11 : Option Addr} {sl11 : Array (Option Value)}
    (a11 : PySem.W.nsIn K mainGlobals "boxed_counts" = some (some (.ref f11)))
    (l11 : K.lookup f11 = some ⟨oc11, od11, .func (PySem.W.fnOf "boxed_counts" "boxed_counts" (defArgs s_boxed_counts) (defBody s_boxed_counts) (defScope s_boxed_counts) .none kV11 dc11 pm11 an11 cd11 ct11), sl11⟩)
    (c11 : PySem.W.codeIn K cd11 "boxed_counts" = true) (k11 : PySem.W.keepIn K (.ref f11) = true)
    {f12 : Addr} {oc12 kV12 dc12 pm12 cd12 ct12 : Value} {od12 an12 : Option Addr} {sl12 : Array (Option Value)}
    (a12 : PySem.W.nsIn K mainGlobals "without" = some (some (.ref f12)))
    (l12 : K.lookup f12 = some ⟨oc12, od12, .func (PySem.W.fnOf "without" "without" (defArgs s_without) (defBody s_without) (defScope s_without) .none kV12 dc12 pm12 an12 cd12 ct12), sl12⟩)
    (c12 : PySem.W.codeIn K cd12 "without" = true) (k12 : PySem.W.keepIn K (.ref f12) = true)
    {f13 : Addr} {oc13 kV13 dc13 pm13 cd13 ct13 : Value} {od13 an13 : Option Addr} {sl13 : Array (Option Value)}
    {TT : Addr} {tc : Value} {td : Option Addr} {tk : Tok} {tn : Nat} {tsl : Array (Option Value)}
    (a13 : PySem.W.nsIn K mainGlobals "counts" = some (some (.ref f13)))
    (l13 : K.lookup f13 = some ⟨oc13, od13, .func (PySem.W.fnOf "counts" "counts" (defArgs s_counts) (defBody s_counts) (defScope s_counts) (.ref TT) kV13 dc13 pm13 an13 cd13 ct13), sl13⟩)
    (c13 : PySem.W.codeIn K cd13 "counts" = true) (k13 : PySem.W.keepIn K (.ref f13) = true)
    (lt : K.lookup TT = some ⟨tc, td, .seq #[.int 0 tk] tn, tsl⟩)
    {f14 : Addr} {oc14 kV14 dc14 pm14 cd14 ct14 : Value} {od14 an14 : Option Addr} {sl14 : Array (Option Value)}
    (a14 : PySem.W.nsIn K mainGlobals "premises" = some (some (.ref f14)))
    (l14 : K.lookup f14 = some ⟨oc14, od14, .func (PySem.W.fnOf "premises" "premises" (defArgs s_premises) (defBody s_premises) (defScope s_premises) .none kV14 dc14 pm14 an14 cd14 ct14), sl14⟩)
    (c14 : PySem.W.codeIn K cd14 "premises" = true) (k14 : PySem.W.keepIn K (.ref f14) = true)
    {f15 : Addr} {oc15 kV15 dc15 pm15 cd15 ct15 : Value} {od15 an15 : Option Addr} {sl15 : Array (Option Value)}
    (a15 : PySem.W.nsIn K mainGlobals "rebuilt" = some (some (.ref f15)))
    (l15 : K.lookup f15 = some ⟨oc15, od15, .func (PySem.W.fnOf "rebuilt" "rebuilt" (defArgs s_rebuilt) (defBody s_rebuilt) (defScope s_rebuilt) .none kV15 dc15 pm15 an15 cd15 ct15), sl15⟩)
    (c15 : PySem.W.codeIn K cd15 "rebuilt" = true) (k15 : PySem.W.keepIn K (.ref f15) = true)
    {f16 : Addr} {oc16 kV16 dc16 pm16 cd16 ct16 : Value} {od16 an16 : Option Addr} {sl16 : Array (Option Value)}
    (a16 : PySem.W.nsIn K mainGlobals "refers_to" = some (some (.ref f16)))
    (l16 : K.lookup f16 = some ⟨oc16, od16, .func (PySem.W.fnOf "refers_to" "refers_to" (defArgs s_refers_to) (defBody s_refers_to) (defScope s_refers_to) .none kV16 dc16 pm16 an16 cd16 ct16), sl16⟩)
    (c16 : PySem.W.codeIn K cd16 "refers_to" = true) (k16 : PySem.W.keepIn K (.ref f16) = true)
    {f17 : Addr} {oc17 kV17 dc17 pm17 cd17 ct17 : Value} {od17 an17 : Option Addr} {sl17 : Array (Option Value)}
    (a17 : PySem.W.nsIn K mainGlobals "moved_ref" = some (some (.ref f17)))
    (l17 : K.lookup f17 = some ⟨oc17, od17, .func (PySem.W.fnOf "moved_ref" "moved_ref" (defArgs s_moved_ref) (defBody s_moved_ref) (defScope s_moved_ref) .none kV17 dc17 pm17 an17 cd17 ct17), sl17⟩)
    (c17 : PySem.W.codeIn K cd17 "moved_ref" = true) (k17 : PySem.W.keepIn K (.ref f17) = true)
    {f18 : Addr} {oc18 kV18 dc18 pm18 cd18 ct18 : Value} {od18 an18 : Option Addr} {sl18 : Array (Option Value)}
    (a18 : PySem.W.nsIn K mainGlobals "moved" = some (some (.ref f18)))
    (l18 : K.lookup f18 = some ⟨oc18, od18, .func (PySem.W.fnOf "moved" "moved" (defArgs s_moved) (defBody s_moved) (defScope s_moved) .none kV18 dc18 pm18 an18 cd18 ct18), sl18⟩)
    (c18 : PySem.W.codeIn K cd18 "moved" = true) (k18 : PySem.W.keepIn K (.ref f18) = true)
    {f19 : Addr} {oc19 kV19 dc19 pm19 cd19 ct19 : Value} {od19 an19 : Option Addr} {sl19 : Array (Option Value)}
    (a19 : PySem.W.nsIn K mainGlobals "with_kind" = some (some (.ref f19)))
    (l19 : K.lookup f19 = some ⟨oc19, od19, .func (PySem.W.fnOf "with_kind" "with_kind" (defArgs s_with_kind) (defBody s_with_kind) (defScope s_with_kind) .none kV19 dc19 pm19 an19 cd19 ct19), sl19⟩)
    (c19 : PySem.W.codeIn K cd19 "with_kind" = true) (k19 : PySem.W.keepIn K (.ref f19) = true)
    {f20 : Addr} {oc20 kV20 dc20 pm20 cd20 ct20 : Value} {od20 an20 : Option Addr} {sl20 : Array (Option Value)}
    (a20 : PySem.W.nsIn K mainGlobals "with_room" = some (some (.ref f20)))
    (l20 : K.lookup f20 = some ⟨oc20, od20, .func (PySem.W.fnOf "with_room" "with_room" (defArgs s_with_room) (defBody s_with_room) (defScope s_with_room) .none kV20 dc20 pm20 an20 cd20 ct20), sl20⟩)
    (c20 : PySem.W.codeIn K cd20 "with_room" = true) (k20 : PySem.W.keepIn K (.ref f20) = true)
    {f21 : Addr} {oc21 kV21 dc21 pm21 cd21 ct21 : Value} {od21 an21 : Option Addr} {sl21 : Array (Option Value)}
    (a21 : PySem.W.nsIn K mainGlobals "pooled_holds" = some (some (.ref f21)))
    (l21 : K.lookup f21 = some ⟨oc21, od21, .func (PySem.W.fnOf "pooled_holds" "pooled_holds" (defArgs s_pooled_holds) (defBody s_pooled_holds) (defScope s_pooled_holds) .none kV21 dc21 pm21 an21 cd21 ct21), sl21⟩)
    (c21 : PySem.W.codeIn K cd21 "pooled_holds" = true) (k21 : PySem.W.keepIn K (.ref f21) = true)
    {f22 : Addr} {oc22 kV22 dc22 pm22 cd22 ct22 : Value} {od22 an22 : Option Addr} {sl22 : Array (Option Value)}
    (a22 : PySem.W.nsIn K mainGlobals "least_kinds" = some (some (.ref f22)))
    (l22 : K.lookup f22 = some ⟨oc22, od22, .func (PySem.W.fnOf "least_kinds" "least_kinds" (defArgs s_least_kinds) (defBody s_least_kinds) (defScope s_least_kinds) .none kV22 dc22 pm22 an22 cd22 ct22), sl22⟩)
    (c22 : PySem.W.codeIn K cd22 "least_kinds" = true) (k22 : PySem.W.keepIn K (.ref f22) = true)
    {f23 : Addr} {oc23 kV23 dc23 pm23 cd23 ct23 : Value} {od23 an23 : Option Addr} {sl23 : Array (Option Value)}
    (a23 : PySem.W.nsIn K mainGlobals "abstracted" = some (some (.ref f23)))
    (l23 : K.lookup f23 = some ⟨oc23, od23, .func (PySem.W.fnOf "abstracted" "abstracted" (defArgs s_abstracted) (defBody s_abstracted) (defScope s_abstracted) .none kV23 dc23 pm23 an23 cd23 ct23), sl23⟩)
    (c23 : PySem.W.codeIn K cd23 "abstracted" = true) (k23 : PySem.W.keepIn K (.ref f23) = true)
    {f24 : Addr} {oc24 kV24 dc24 pm24 cd24 ct24 : Value} {od24 an24 : Option Addr} {sl24 : Array (Option Value)}
    (a24 : PySem.W.nsIn K mainGlobals "_law_cell" = some (some (.ref f24)))
    (l24 : K.lookup f24 = some ⟨oc24, od24, .func (PySem.W.fnOf "_law_cell" "_law_cell" (defArgs s__law_cell) (defBody s__law_cell) (defScope s__law_cell) .none kV24 dc24 pm24 an24 cd24 ct24), sl24⟩)
    (c24 : PySem.W.codeIn K cd24 "_law_cell" = true) (k24 : PySem.W.keepIn K (.ref f24) = true)
    {f25 : Addr} {oc25 kV25 dc25 pm25 cd25 ct25 : Value} {od25 an25 : Option Addr} {sl25 : Array (Option Value)}
    (a25 : PySem.W.nsIn K mainGlobals "_law_pool" = some (some (.ref f25)))
    (l25 : K.lookup f25 = some ⟨oc25, od25, .func (PySem.W.fnOf "_law_pool" "_law_pool" (defArgs s__law_pool) (defBody s__law_pool) (defScope s__law_pool) .none kV25 dc25 pm25 an25 cd25 ct25), sl25⟩)
    (c25 : PySem.W.codeIn K cd25 "_law_pool" = true) (k25 : PySem.W.keepIn K (.ref f25) = true)
    {f26 : Addr} {oc26 kV26 dc26 pm26 cd26 ct26 : Value} {od26 an26 : Option Addr} {sl26 : Array (Option Value)}
    (a26 : PySem.W.nsIn K mainGlobals "_law_next" = some (some (.ref f26)))
    (l26 : K.lookup f26 = some ⟨oc26, od26, .func (PySem.W.fnOf "_law_next" "_law_next" (defArgs s__law_next) (defBody s__law_next) (defScope s__law_next) .none kV26 dc26 pm26 an26 cd26 ct26), sl26⟩)
    (c26 : PySem.W.codeIn K cd26 "_law_next" = true) (k26 : PySem.W.keepIn K (.ref f26) = true)
    {f27 : Addr} {oc27 kV27 dc27 pm27 cd27 ct27 : Value} {od27 an27 : Option Addr} {sl27 : Array (Option Value)}
    (a27 : PySem.W.nsIn K mainGlobals "_law_new_name" = some (some (.ref f27)))
    (l27 : K.lookup f27 = some ⟨oc27, od27, .func (PySem.W.fnOf "_law_new_name" "_law_new_name" (defArgs s__law_new_name) (defBody s__law_new_name) (defScope s__law_new_name) .none kV27 dc27 pm27 an27 cd27 ct27), sl27⟩)
    (c27 : PySem.W.codeIn K cd27 "_law_new_name" = true) (k27 : PySem.W.keepIn K (.ref f27) = true)
    {f28 : Addr} {oc28 kV28 dc28 pm28 cd28 ct28 : Value} {od28 an28 : Option Addr} {sl28 : Array (Option Value)}
    (a28 : PySem.W.nsIn K mainGlobals "_law_sentence" = some (some (.ref f28)))
    (l28 : K.lookup f28 = some ⟨oc28, od28, .func (PySem.W.fnOf "_law_sentence" "_law_sentence" (defArgs s__law_sentence) (defBody s__law_sentence) (defScope s__law_sentence) .none kV28 dc28 pm28 an28 cd28 ct28), sl28⟩)
    (c28 : PySem.W.codeIn K cd28 "_law_sentence" = true) (k28 : PySem.W.keepIn K (.ref f28) = true)
    {f29 : Addr} {oc29 kV29 dc29 pm29 cd29 ct29 : Value} {od29 an29 : Option Addr} {sl29 : Array (Option Value)}
    (a29 : PySem.W.nsIn K mainGlobals "_law_merge" = some (some (.ref f29)))
    (l29 : K.lookup f29 = some ⟨oc29, od29, .func (PySem.W.fnOf "_law_merge" "_law_merge" (defArgs s__law_merge) (defBody s__law_merge) (defScope s__law_merge) .none kV29 dc29 pm29 an29 cd29 ct29), sl29⟩)
    (c29 : PySem.W.codeIn K cd29 "_law_merge" = true) (k29 : PySem.W.keepIn K (.ref f29) = true)
    {f30 : Addr} {oc30 kV30 dc30 pm30 cd30 ct30 : Value} {od30 an30 : Option Addr} {sl30 : Array (Option Value)}
    (a30 : PySem.W.nsIn K mainGlobals "_law_box" = some (some (.ref f30)))
    (l30 : K.lookup f30 = some ⟨oc30, od30, .func (PySem.W.fnOf "_law_box" "_law_box" (defArgs s__law_box) (defBody s__law_box) (defScope s__law_box) .none kV30 dc30 pm30 an30 cd30 ct30), sl30⟩)
    (c30 : PySem.W.codeIn K cd30 "_law_box" = true) (k30 : PySem.W.keepIn K (.ref f30) = true)
    {f31 : Addr} {oc31 kV31 dc31 pm31 cd31 ct31 : Value} {od31 an31 : Option Addr} {sl31 : Array (Option Value)}
    (a31 : PySem.W.nsIn K mainGlobals "_law_counts" = some (some (.ref f31)))
    (l31 : K.lookup f31 = some ⟨oc31, od31, .func (PySem.W.fnOf "_law_counts" "_law_counts" (defArgs s__law_counts) (defBody s__law_counts) (defScope s__law_counts) .none kV31 dc31 pm31 an31 cd31 ct31), sl31⟩)
    (c31 : PySem.W.codeIn K cd31 "_law_counts" = true) (k31 : PySem.W.keepIn K (.ref f31) = true)
    {f32 : Addr} {oc32 kV32 dc32 pm32 cd32 ct32 : Value} {od32 an32 : Option Addr} {sl32 : Array (Option Value)}
    (a32 : PySem.W.nsIn K mainGlobals "_law_row" = some (some (.ref f32)))
    (l32 : K.lookup f32 = some ⟨oc32, od32, .func (PySem.W.fnOf "_law_row" "_law_row" (defArgs s__law_row) (defBody s__law_row) (defScope s__law_row) .none kV32 dc32 pm32 an32 cd32 ct32), sl32⟩)
    (c32 : PySem.W.codeIn K cd32 "_law_row" = true) (k32 : PySem.W.keepIn K (.ref f32) = true)
    {f33 : Addr} {oc33 kV33 dc33 pm33 cd33 ct33 : Value} {od33 an33 : Option Addr} {sl33 : Array (Option Value)}
    (a33 : PySem.W.nsIn K mainGlobals "_law_parts" = some (some (.ref f33)))
    (l33 : K.lookup f33 = some ⟨oc33, od33, .func (PySem.W.fnOf "_law_parts" "_law_parts" (defArgs s__law_parts) (defBody s__law_parts) (defScope s__law_parts) .none kV33 dc33 pm33 an33 cd33 ct33), sl33⟩)
    (c33 : PySem.W.codeIn K cd33 "_law_parts" = true) (k33 : PySem.W.keepIn K (.ref f33) = true)
    {f34 : Addr} {oc34 kV34 dc34 pm34 cd34 ct34 : Value} {od34 an34 : Option Addr} {sl34 : Array (Option Value)}
    (a34 : PySem.W.nsIn K mainGlobals "_law_moved" = some (some (.ref f34)))
    (l34 : K.lookup f34 = some ⟨oc34, od34, .func (PySem.W.fnOf "_law_moved" "_law_moved" (defArgs s__law_moved) (defBody s__law_moved) (defScope s__law_moved) .none kV34 dc34 pm34 an34 cd34 ct34), sl34⟩)
    (c34 : PySem.W.codeIn K cd34 "_law_moved" = true) (k34 : PySem.W.keepIn K (.ref f34) = true)
    {f35 : Addr} {oc35 kV35 dc35 pm35 cd35 ct35 : Value} {od35 an35 : Option Addr} {sl35 : Array (Option Value)}
    (a35 : PySem.W.nsIn K mainGlobals "_law_mode" = some (some (.ref f35)))
    (l35 : K.lookup f35 = some ⟨oc35, od35, .func (PySem.W.fnOf "_law_mode" "_law_mode" (defArgs s__law_mode) (defBody s__law_mode) (defScope s__law_mode) .none kV35 dc35 pm35 an35 cd35 ct35), sl35⟩)
    (c35 : PySem.W.codeIn K cd35 "_law_mode" = true) (k35 : PySem.W.keepIn K (.ref f35) = true)
    {f36 : Addr} {oc36 kV36 dc36 pm36 cd36 ct36 : Value} {od36 an36 : Option Addr} {sl36 : Array (Option Value)}
    (a36 : PySem.W.nsIn K mainGlobals "_law_ref" = some (some (.ref f36)))
    (l36 : K.lookup f36 = some ⟨oc36, od36, .func (PySem.W.fnOf "_law_ref" "_law_ref" (defArgs s__law_ref) (defBody s__law_ref) (defScope s__law_ref) .none kV36 dc36 pm36 an36 cd36 ct36), sl36⟩)
    (c36 : PySem.W.codeIn K cd36 "_law_ref" = true) (k36 : PySem.W.keepIn K (.ref f36) = true)
    {f37 : Addr} {oc37 kV37 dc37 pm37 cd37 ct37 : Value} {od37 an37 : Option Addr} {sl37 : Array (Option Value)}
    (a37 : PySem.W.nsIn K mainGlobals "_law_called" = some (some (.ref f37)))
    (l37 : K.lookup f37 = some ⟨oc37, od37, .func (PySem.W.fnOf "_law_called" "_law_called" (defArgs s__law_called) (defBody s__law_called) (defScope s__law_called) .none kV37 dc37 pm37 an37 cd37 ct37), sl37⟩)
    (c37 : PySem.W.codeIn K cd37 "_law_called" = true) (k37 : PySem.W.keepIn K (.ref f37) = true)
    {f38 : Addr} {oc38 kV38 dc38 pm38 cd38 ct38 : Value} {od38 an38 : Option Addr} {sl38 : Array (Option Value)}
    (a38 : PySem.W.nsIn K mainGlobals "_law_free" = some (some (.ref f38)))
    (l38 : K.lookup f38 = some ⟨oc38, od38, .func (PySem.W.fnOf "_law_free" "_law_free" (defArgs s__law_free) (defBody s__law_free) (defScope s__law_free) .none kV38 dc38 pm38 an38 cd38 ct38), sl38⟩)
    (c38 : PySem.W.codeIn K cd38 "_law_free" = true) (k38 : PySem.W.keepIn K (.ref f38) = true)
    {f39 : Addr} {oc39 kV39 dc39 pm39 cd39 ct39 : Value} {od39 an39 : Option Addr} {sl39 : Array (Option Value)}
    (a39 : PySem.W.nsIn K mainGlobals "_law_claim" = some (some (.ref f39)))
    (l39 : K.lookup f39 = some ⟨oc39, od39, .func (PySem.W.fnOf "_law_claim" "_law_claim" (defArgs s__law_claim) (defBody s__law_claim) (defScope s__law_claim) .none kV39 dc39 pm39 an39 cd39 ct39), sl39⟩)
    (c39 : PySem.W.codeIn K cd39 "_law_claim" = true) (k39 : PySem.W.keepIn K (.ref f39) = true)
    {f40 : Addr} {oc40 kV40 dc40 pm40 cd40 ct40 : Value} {od40 an40 : Option Addr} {sl40 : Array (Option Value)}
    (a40 : PySem.W.nsIn K mainGlobals "_law_group" = some (some (.ref f40)))
    (l40 : K.lookup f40 = some ⟨oc40, od40, .func (PySem.W.fnOf "_law_group" "_law_group" (defArgs s__law_group) (defBody s__law_group) (defScope s__law_group) .none kV40 dc40 pm40 an40 cd40 ct40), sl40⟩)
    (c40 : PySem.W.codeIn K cd40 "_law_group" = true) (k40 : PySem.W.keepIn K (.ref f40) = true)
    {f41 : Addr} {oc41 kV41 dc41 pm41 cd41 ct41 : Value} {od41 an41 : Option Addr} {sl41 : Array (Option Value)}
    (a41 : PySem.W.nsIn K mainGlobals "_law_begin" = some (some (.ref f41)))
    (l41 : K.lookup f41 = some ⟨oc41, od41, .func (PySem.W.fnOf "_law_begin" "_law_begin" (defArgs s__law_begin) (defBody s__law_begin) (defScope s__law_begin) .none kV41 dc41 pm41 an41 cd41 ct41), sl41⟩)
    (c41 : PySem.W.codeIn K cd41 "_law_begin" = true) (k41 : PySem.W.keepIn K (.ref f41) = true)
    {f42 : Addr} {oc42 kV42 dc42 pm42 cd42 ct42 : Value} {od42 an42 : Option Addr} {sl42 : Array (Option Value)}
    (a42 : PySem.W.nsIn K mainGlobals "_law_same" = some (some (.ref f42)))
    (l42 : K.lookup f42 = some ⟨oc42, od42, .func (PySem.W.fnOf "_law_same" "_law_same" (defArgs s__law_same) (defBody s__law_same) (defScope s__law_same) .none kV42 dc42 pm42 an42 cd42 ct42), sl42⟩)
    (c42 : PySem.W.codeIn K cd42 "_law_same" = true) (k42 : PySem.W.keepIn K (.ref f42) = true)
    {f43 : Addr} {oc43 kV43 dc43 pm43 cd43 ct43 : Value} {od43 an43 : Option Addr} {sl43 : Array (Option Value)}
    (a43 : PySem.W.nsIn K mainGlobals "_law_fitted" = some (some (.ref f43)))
    (l43 : K.lookup f43 = some ⟨oc43, od43, .func (PySem.W.fnOf "_law_fitted" "_law_fitted" (defArgs s__law_fitted) (defBody s__law_fitted) (defScope s__law_fitted) .none kV43 dc43 pm43 an43 cd43 ct43), sl43⟩)
    (c43 : PySem.W.codeIn K cd43 "_law_fitted" = true) (k43 : PySem.W.keepIn K (.ref f43) = true)
    {f44 : Addr} {oc44 kV44 dc44 pm44 cd44 ct44 : Value} {od44 an44 : Option Addr} {sl44 : Array (Option Value)}
    (a44 : PySem.W.nsIn K mainGlobals "_law_least" = some (some (.ref f44)))
    (l44 : K.lookup f44 = some ⟨oc44, od44, .func (PySem.W.fnOf "_law_least" "_law_least" (defArgs s__law_least) (defBody s__law_least) (defScope s__law_least) .none kV44 dc44 pm44 an44 cd44 ct44), sl44⟩)
    (c44 : PySem.W.codeIn K cd44 "_law_least" = true) (k44 : PySem.W.keepIn K (.ref f44) = true)
    {f45 : Addr} {oc45 kV45 dc45 pm45 cd45 ct45 : Value} {od45 an45 : Option Addr} {sl45 : Array (Option Value)}
    (a45 : PySem.W.nsIn K mainGlobals "_law_boxes" = some (some (.ref f45)))
    (l45 : K.lookup f45 = some ⟨oc45, od45, .func (PySem.W.fnOf "_law_boxes" "_law_boxes" (defArgs s__law_boxes) (defBody s__law_boxes) (defScope s__law_boxes) .none kV45 dc45 pm45 an45 cd45 ct45), sl45⟩)
    (c45 : PySem.W.codeIn K cd45 "_law_boxes" = true) (k45 : PySem.W.keepIn K (.ref f45) = true)
    {f46 : Addr} {oc46 kV46 dc46 pm46 cd46 ct46 : Value} {od46 an46 : Option Addr} {sl46 : Array (Option Value)}
    (a46 : PySem.W.nsIn K mainGlobals "_law_nested" = some (some (.ref f46)))
    (l46 : K.lookup f46 = some ⟨oc46, od46, .func (PySem.W.fnOf "_law_nested" "_law_nested" (defArgs s__law_nested) (defBody s__law_nested) (defScope s__law_nested) .none kV46 dc46 pm46 an46 cd46 ct46), sl46⟩)
    (c46 : PySem.W.codeIn K cd46 "_law_nested" = true) (k46 : PySem.W.keepIn K (.ref f46) = true)
    {f47 : Addr} {oc47 kV47 dc47 pm47 cd47 ct47 : Value} {od47 an47 : Option Addr} {sl47 : Array (Option Value)}
    (a47 : PySem.W.nsIn K mainGlobals "_law_singles" = some (some (.ref f47)))
    (l47 : K.lookup f47 = some ⟨oc47, od47, .func (PySem.W.fnOf "_law_singles" "_law_singles" (defArgs s__law_singles) (defBody s__law_singles) (defScope s__law_singles) .none kV47 dc47 pm47 an47 cd47 ct47), sl47⟩)
    (c47 : PySem.W.codeIn K cd47 "_law_singles" = true) (k47 : PySem.W.keepIn K (.ref f47) = true)
    {f48 : Addr} {oc48 kV48 dc48 pm48 cd48 ct48 : Value} {od48 an48 : Option Addr} {sl48 : Array (Option Value)}
    (a48 : PySem.W.nsIn K mainGlobals "_law_row_of" = some (some (.ref f48)))
    (l48 : K.lookup f48 = some ⟨oc48, od48, .func (PySem.W.fnOf "_law_row_of" "_law_row_of" (defArgs s__law_row_of) (defBody s__law_row_of) (defScope s__law_row_of) .none kV48 dc48 pm48 an48 cd48 ct48), sl48⟩)
    (c48 : PySem.W.codeIn K cd48 "_law_row_of" = true) (k48 : PySem.W.keepIn K (.ref f48) = true)
    {f49 : Addr} {oc49 kV49 dc49 pm49 cd49 ct49 : Value} {od49 an49 : Option Addr} {sl49 : Array (Option Value)}
    (a49 : PySem.W.nsIn K mainGlobals "_law_pooled" = some (some (.ref f49)))
    (l49 : K.lookup f49 = some ⟨oc49, od49, .func (PySem.W.fnOf "_law_pooled" "_law_pooled" (defArgs s__law_pooled) (defBody s__law_pooled) (defScope s__law_pooled) .none kV49 dc49 pm49 an49 cd49 ct49), sl49⟩)
    (c49 : PySem.W.codeIn K cd49 "_law_pooled" = true) (k49 : PySem.W.keepIn K (.ref f49) = true)
    {f50 : Addr} {oc50 kV50 dc50 pm50 cd50 ct50 : Value} {od50 an50 : Option Addr} {sl50 : Array (Option Value)}
    (a50 : PySem.W.nsIn K mainGlobals "_law_taken" = some (some (.ref f50)))
    (l50 : K.lookup f50 = some ⟨oc50, od50, .func (PySem.W.fnOf "_law_taken" "_law_taken" (defArgs s__law_taken) (defBody s__law_taken) (defScope s__law_taken) .none kV50 dc50 pm50 an50 cd50 ct50), sl50⟩)
    (c50 : PySem.W.codeIn K cd50 "_law_taken" = true) (k50 : PySem.W.keepIn K (.ref f50) = true)
    {f51 : Addr} {oc51 kV51 dc51 pm51 cd51 ct51 : Value} {od51 an51 : Option Addr} {sl51 : Array (Option Value)}
    (a51 : PySem.W.nsIn K mainGlobals "_law_widened" = some (some (.ref f51)))
    (l51 : K.lookup f51 = some ⟨oc51, od51, .func (PySem.W.fnOf "_law_widened" "_law_widened" (defArgs s__law_widened) (defBody s__law_widened) (defScope s__law_widened) .none kV51 dc51 pm51 an51 cd51 ct51), sl51⟩)
    (c51 : PySem.W.codeIn K cd51 "_law_widened" = true) (k51 : PySem.W.keepIn K (.ref f51) = true)
    {f52 : Addr} {oc52 kV52 dc52 pm52 cd52 ct52 : Value} {od52 an52 : Option Addr} {sl52 : Array (Option Value)}
    (a52 : PySem.W.nsIn K mainGlobals "_law_tried" = some (some (.ref f52)))
    (l52 : K.lookup f52 = some ⟨oc52, od52, .func (PySem.W.fnOf "_law_tried" "_law_tried" (defArgs s__law_tried) (defBody s__law_tried) (defScope s__law_tried) .none kV52 dc52 pm52 an52 cd52 ct52), sl52⟩)
    (c52 : PySem.W.codeIn K cd52 "_law_tried" = true) (k52 : PySem.W.keepIn K (.ref f52) = true)
    {f53 : Addr} {oc53 kV53 dc53 pm53 cd53 ct53 : Value} {od53 an53 : Option Addr} {sl53 : Array (Option Value)}
    (a53 : PySem.W.nsIn K mainGlobals "_law_agrees" = some (some (.ref f53)))
    (l53 : K.lookup f53 = some ⟨oc53, od53, .func (PySem.W.fnOf "_law_agrees" "_law_agrees" (defArgs s__law_agrees) (defBody s__law_agrees) (defScope s__law_agrees) .none kV53 dc53 pm53 an53 cd53 ct53), sl53⟩)
    (c53 : PySem.W.codeIn K cd53 "_law_agrees" = true) (k53 : PySem.W.keepIn K (.ref f53) = true)
    {f54 : Addr} {oc54 kV54 dc54 pm54 cd54 ct54 : Value} {od54 an54 : Option Addr} {sl54 : Array (Option Value)}
    (a54 : PySem.W.nsIn K mainGlobals "_law_pairs" = some (some (.ref f54)))
    (l54 : K.lookup f54 = some ⟨oc54, od54, .func (PySem.W.fnOf "_law_pairs" "_law_pairs" (defArgs s__law_pairs) (defBody s__law_pairs) (defScope s__law_pairs) .none kV54 dc54 pm54 an54 cd54 ct54), sl54⟩)
    (c54 : PySem.W.codeIn K cd54 "_law_pairs" = true) (k54 : PySem.W.keepIn K (.ref f54) = true)
    {f55 : Addr} {oc55 kV55 dc55 pm55 cd55 ct55 : Value} {od55 an55 : Option Addr} {sl55 : Array (Option Value)}
    (a55 : PySem.W.nsIn K mainGlobals "_law_joins" = some (some (.ref f55)))
    (l55 : K.lookup f55 = some ⟨oc55, od55, .func (PySem.W.fnOf "_law_joins" "_law_joins" (defArgs s__law_joins) (defBody s__law_joins) (defScope s__law_joins) .none kV55 dc55 pm55 an55 cd55 ct55), sl55⟩)
    (c55 : PySem.W.codeIn K cd55 "_law_joins" = true) (k55 : PySem.W.keepIn K (.ref f55) = true)
    {f56 : Addr} {oc56 kV56 dc56 pm56 cd56 ct56 : Value} {od56 an56 : Option Addr} {sl56 : Array (Option Value)}
    (a56 : PySem.W.nsIn K mainGlobals "_law_three" = some (some (.ref f56)))
    (l56 : K.lookup f56 = some ⟨oc56, od56, .func (PySem.W.fnOf "_law_three" "_law_three" (defArgs s__law_three) (defBody s__law_three) (defScope s__law_three) .none kV56 dc56 pm56 an56 cd56 ct56), sl56⟩)
    (c56 : PySem.W.codeIn K cd56 "_law_three" = true) (k56 : PySem.W.keepIn K (.ref f56) = true)
    {f57 : Addr} {oc57 kV57 dc57 pm57 cd57 ct57 : Value} {od57 an57 : Option Addr} {sl57 : Array (Option Value)}
    (a57 : PySem.W.nsIn K mainGlobals "_law_lifted" = some (some (.ref f57)))
    (l57 : K.lookup f57 = some ⟨oc57, od57, .func (PySem.W.fnOf "_law_lifted" "_law_lifted" (defArgs s__law_lifted) (defBody s__law_lifted) (defScope s__law_lifted) .none kV57 dc57 pm57 an57 cd57 ct57), sl57⟩)
    (c57 : PySem.W.codeIn K cd57 "_law_lifted" = true) (k57 : PySem.W.keepIn K (.ref f57) = true)
    {f58 : Addr} {oc58 kV58 dc58 pm58 cd58 ct58 : Value} {od58 an58 : Option Addr} {sl58 : Array (Option Value)}
    (a58 : PySem.W.nsIn K mainGlobals "_law_given" = some (some (.ref f58)))
    (l58 : K.lookup f58 = some ⟨oc58, od58, .func (PySem.W.fnOf "_law_given" "_law_given" (defArgs s__law_given) (defBody s__law_given) (defScope s__law_given) .none kV58 dc58 pm58 an58 cd58 ct58), sl58⟩)
    (c58 : PySem.W.codeIn K cd58 "_law_given" = true) (k58 : PySem.W.keepIn K (.ref f58) = true)
    {f59 : Addr} {oc59 kV59 dc59 pm59 cd59 ct59 : Value} {od59 an59 : Option Addr} {sl59 : Array (Option Value)}
    (a59 : PySem.W.nsIn K mainGlobals "_law_rooms" = some (some (.ref f59)))
    (l59 : K.lookup f59 = some ⟨oc59, od59, .func (PySem.W.fnOf "_law_rooms" "_law_rooms" (defArgs s__law_rooms) (defBody s__law_rooms) (defScope s__law_rooms) .none kV59 dc59 pm59 an59 cd59 ct59), sl59⟩)
    (c59 : PySem.W.codeIn K cd59 "_law_rooms" = true) (k59 : PySem.W.keepIn K (.ref f59) = true)
    {f60 : Addr} {oc60 kV60 dc60 pm60 cd60 ct60 : Value} {od60 an60 : Option Addr} {sl60 : Array (Option Value)}
    (a60 : PySem.W.nsIn K mainGlobals "law" = some (some (.ref f60)))
    (l60 : K.lookup f60 = some ⟨oc60, od60, .func (PySem.W.fnOf "law" "law" (defArgs s_law) (defBody s_law) (defScope s_law) .none kV60 dc60 pm60 an60 cd60 ct60), sl60⟩)
    (c60 : PySem.W.codeIn K cd60 "law" = true) (k60 : PySem.W.keepIn K (.ref f60) = true)
    (z0 : PySem.W.nsIn K mainGlobals "abs" = some none)
    (z1 : PySem.W.nsIn K mainGlobals "bool" = some none)
    (z2 : PySem.W.nsIn K mainGlobals "int" = some none)
    (z3 : PySem.W.nsIn K mainGlobals "isinstance" = some none)
    (z4 : PySem.W.nsIn K mainGlobals "len" = some none)
    (z5 : PySem.W.nsIn K mainGlobals "list" = some none)
    (z6 : PySem.W.nsIn K mainGlobals "max" = some none)
    (z7 : PySem.W.nsIn K mainGlobals "min" = some none)
    (z8 : PySem.W.nsIn K mainGlobals "range" = some none)
    (z9 : PySem.W.nsIn K mainGlobals "reversed" = some none)
    (z10 : PySem.W.nsIn K mainGlobals "str" = some none)
    (z11 : PySem.W.nsIn K mainGlobals "tuple" = some none)
    (z12 : PySem.W.nsIn K mainGlobals "ValueError" = some none)
    {p0 : Addr} {es0 : Array DictEntry} {n0 : Nat} {t0 t1 t2 t3 t4 t5 t6 t7 t8 : Tok}
    (d0 : PySem.W.nsIn K mainGlobals "PREMISES" = some (some (.ref p0)))
    (d1 : K.lookup p0 = some ⟨.type "dict", none, .dict es0 n0, #[]⟩)
    (d2 : PySem.W.KeysLit w.params es0.toList)
    (e0 : PySem.W.nsIn K p0 "own" = some (some (.int 0 t0)))
    (e1 : PySem.W.nsIn K p0 "cite" = some (some (.int 0 t1)))
    (e2 : PySem.W.nsIn K p0 "take" = some (some (.int 1 t2)))
    (e3 : PySem.W.nsIn K p0 "pick" = some (some (.int 1 t3)))
    (e4 : PySem.W.nsIn K p0 "make" = some (some (.int 1 t4)))
    (e5 : PySem.W.nsIn K p0 "open" = some (some (.int 1 t5)))
    (e6 : PySem.W.nsIn K p0 "offer" = some (some (.int 2 t6)))
    (e7 : PySem.W.nsIn K p0 "pay" = some (some (.int 2 t7)))
    (e8 : PySem.W.nsIn K p0 "cut" = some (some (.int 2 t8)))
    {cB : Addr}
    (h0 : PySem.W.nsIn K mainGlobals "HeldError" = some (some (.ref cB)))
    (h1 : PySem.W.readsIn K cB (.type "type") = true)
    (h2 : PySem.W.specialIn K (.ref cB) "__getattribute__" = some (some (.builtin "type.__getattribute__")))
    (h3 : PySem.W.findCls K (.ref cB) (.type "type") "__init__" = some (.val (.builtin "ValueError.__init__")))
    (h4 : PySem.W.keepIn K (.ref cB) = true)
    (h7 : PySem.W.hasDictIn K cB = true)
    (h8 : PySem.W.typeIn K (.ref cB) = some (.type "type"))
    (h5 : PySem.W.specialIn K (.builtin "object.__class__") "__get__" = some (some (.builtin "getset_descriptor.__get__")))
    (h6 : PySem.W.takesIn K (.builtin "object.__class__") = some true)
    {C0 I0 : Addr} {nm0 q0 : Str} {N0 : Addr} {bs0 : List Value} {sn0 : List Str} {sub0 : List Value} {ab0 : Bool} {col0 : Option Bool} {dd0 : Option Addr} {m00 m10 m20 m30 m50 : Option Value} {ioc0 ikV0 idc0 ipm0 icd0 ict0 : Value} {iod0 ian0 : Option Addr} {isl0 : Array (Option Value)}
    {C1 I1 : Addr} {nm1 q1 : Str} {N1 : Addr} {bs1 : List Value} {sn1 : List Str} {sub1 : List Value} {ab1 : Bool} {col1 : Option Bool} {dd1 : Option Addr} {m01 m11 m21 m31 m51 : Option Value} {ioc1 ikV1 idc1 ipm1 icd1 ict1 : Value} {iod1 ian1 : Option Addr} {isl1 : Array (Option Value)}
    (xa0 : PySem.W.nsIn K mainGlobals "UnknownName" = some (some (.ref C0)))
    (xl0 : K.lookup C0 = some (excClassObj nm0 q0 C0 N0 bs0 (.ref cB :: [.type "ValueError", .type "Exception", .type "BaseException", .type "object"]) true sn0 sub0 ab0 col0 dd0 m00 m10 m20 m30 m50 "ValueError.__new__"))
    (xs0 : PySem.W.findIn K (.ref C0) "__setattr__" = some (some (.builtin "object.__setattr__")))
    (xg0 : PySem.W.findIn K (.ref C0) "__getattribute__" = some (some (.builtin "BaseException.__getattribute__")))
    (xh0 : PySem.W.findIn K (.ref C0) "__getattr__" = some none)
    (xn0 : PySem.W.findIn K (.ref C0) "name" = some none)
    (xi0 : PySem.W.findIn K (.ref C0) "__init__" = some (some (.ref I0)))
    (xt0 : PySem.W.typeIn K (.ref I0) = some (.type "function"))
    (yl0 : K.lookup I0 = some ⟨ioc0, iod0, .func (PySem.W.fnOf "__init__" "UnknownName.__init__" (defArgs s_UnknownName) (defBody s_UnknownName) (defScope s_UnknownName) .none ikV0 idc0 ipm0 ian0 icd0 ict0), isl0⟩)
    (yc0 : PySem.W.codeIn K icd0 "UnknownName.__init__" = true)
    (yk0 : PySem.W.keepIn K (.ref I0) = true)
    (xk0 : PySem.W.keepIn K (.ref C0) = true)
    (xe0 : PySem.W.subIn K (.ref C0) (.type "BaseException") = some true)
    (xy0 : PySem.W.typeIn K (.ref C0) = some (.type "type"))
    (xd0 : PySem.W.hasDictIn K C0 = true)
    (xc0 : PySem.W.findIn K (.ref C0) "__class__" = some (some (.builtin "object.__class__")))
    (xm0 : PySem.W.mroIn K C0 (.type "object") = some true)
    (xb0 : PySem.W.subIn K (.ref C0) (.ref cB) = some true)
    (xv0 : PySem.W.subIn K (.ref C0) (.type "ValueError") = some true)
    (xx0 : PySem.W.subIn K (.ref C0) (.ref C0) = some true)
    (xa1 : PySem.W.nsIn K mainGlobals "NoRoom" = some (some (.ref C1)))
    (xl1 : K.lookup C1 = some (excClassObj nm1 q1 C1 N1 bs1 (.ref cB :: [.type "ValueError", .type "Exception", .type "BaseException", .type "object"]) true sn1 sub1 ab1 col1 dd1 m01 m11 m21 m31 m51 "ValueError.__new__"))
    (xs1 : PySem.W.findIn K (.ref C1) "__setattr__" = some (some (.builtin "object.__setattr__")))
    (xg1 : PySem.W.findIn K (.ref C1) "__getattribute__" = some (some (.builtin "BaseException.__getattribute__")))
    (xh1 : PySem.W.findIn K (.ref C1) "__getattr__" = some none)
    (xn1 : PySem.W.findIn K (.ref C1) "name" = some none)
    (xi1 : PySem.W.findIn K (.ref C1) "__init__" = some (some (.ref I1)))
    (xt1 : PySem.W.typeIn K (.ref I1) = some (.type "function"))
    (yl1 : K.lookup I1 = some ⟨ioc1, iod1, .func (PySem.W.fnOf "__init__" "NoRoom.__init__" (defArgs s_NoRoom) (defBody s_NoRoom) (defScope s_NoRoom) .none ikV1 idc1 ipm1 ian1 icd1 ict1), isl1⟩)
    (yc1 : PySem.W.codeIn K icd1 "NoRoom.__init__" = true)
    (yk1 : PySem.W.keepIn K (.ref I1) = true)
    (xk1 : PySem.W.keepIn K (.ref C1) = true)
    (xe1 : PySem.W.subIn K (.ref C1) (.type "BaseException") = some true)
    (xy1 : PySem.W.typeIn K (.ref C1) = some (.type "type"))
    (xd1 : PySem.W.hasDictIn K C1 = true)
    (xc1 : PySem.W.findIn K (.ref C1) "__class__" = some (some (.builtin "object.__class__")))
    (xm1 : PySem.W.mroIn K C1 (.type "object") = some true)
    (xb1 : PySem.W.subIn K (.ref C1) (.ref cB) = some true)
    (xv1 : PySem.W.subIn K (.ref C1) (.type "ValueError") = some true)
    (xx1 : PySem.W.subIn K (.ref C1) (.ref C1) = some true)
    (o0 : PySem.W.subIn K (.ref C0) (.ref C1) = some false)
    (o1 : PySem.W.subIn K (.ref C1) (.ref C0) = some false)
    {CC : Addr}
    (ca0 : PySem.W.nsIn K mainGlobals "Count" = some (some (.ref CC)))
    (ca1 : PySem.W.plainGet K CC Str.empty = true)
    (ca2 : PySem.W.hasDictIn K CC = true)
    (ca3 : PySem.W.plainOver K CC = true)
    (ca4 : PySem.W.findIn K (.ref CC) "__setattr__" = some (some (.builtin "object.__setattr__")))
    (ca5 : PySem.W.selfFirst K CC = true)
    (ca6 : PySem.W.findIn K (.ref CC) "least" = some none)
    (ca7 : PySem.W.findIn K (.ref CC) "most" = some none)
    (ca8 : PySem.W.findIn K (.ref CC) "days" = some none)
    (ca9 : PySem.W.makesIn K CC = true)
    (cak : PySem.W.keepIn K (.ref CC) = true)
    {mf0 : Addr} {moc0 mkV0 mdc0 mpm0 mcd0 mct0 : Value} {mod0 man0 : Option Addr} {msl0 : Array (Option Value)}
    (ma0 : PySem.W.findIn K (.ref CC) "__init__" = some (some (.ref mf0)))
    (mi0 : PySem.W.isFn K (.ref mf0) = true)
    (ml0 : K.lookup mf0 = some ⟨moc0, mod0, .func (PySem.W.fnOf "__init__" "Count.__init__" (defArgs s_Count_init) (defBody s_Count_init) (defScope s_Count_init) .none mkV0 mdc0 mpm0 man0 mcd0 mct0), msl0⟩)
    (mc0 : PySem.W.codeIn K mcd0 "Count.__init__" = true)
    (mk0 : PySem.W.keepIn K (.ref mf0) = true)
    {mf1 : Addr} {moc1 mkV1 mdc1 mpm1 mcd1 mct1 : Value} {mod1 man1 : Option Addr} {msl1 : Array (Option Value)}
    (ma1 : PySem.W.findIn K (.ref CC) "__add__" = some (some (.ref mf1)))
    (mi1 : PySem.W.isFn K (.ref mf1) = true)
    (ml1 : K.lookup mf1 = some ⟨moc1, mod1, .func (PySem.W.fnOf "__add__" "Count.__add__" (defArgs s_Count_add) (defBody s_Count_add) (defScope s_Count_add) .none mkV1 mdc1 mpm1 man1 mcd1 mct1), msl1⟩)
    (mc1 : PySem.W.codeIn K mcd1 "Count.__add__" = true)
    (mk1 : PySem.W.keepIn K (.ref mf1) = true)
    {mf2 : Addr} {moc2 mkV2 mdc2 mpm2 mcd2 mct2 : Value} {mod2 man2 : Option Addr} {msl2 : Array (Option Value)}
    (ma2 : PySem.W.findIn K (.ref CC) "__or__" = some (some (.ref mf2)))
    (mi2 : PySem.W.isFn K (.ref mf2) = true)
    (ml2 : K.lookup mf2 = some ⟨moc2, mod2, .func (PySem.W.fnOf "__or__" "Count.__or__" (defArgs s_Count_or) (defBody s_Count_or) (defScope s_Count_or) .none mkV2 mdc2 mpm2 man2 mcd2 mct2), msl2⟩)
    (mc2 : PySem.W.codeIn K mcd2 "Count.__or__" = true)
    (mk2 : PySem.W.keepIn K (.ref mf2) = true)
    {mf3 : Addr} {moc3 mkV3 mdc3 mpm3 mcd3 mct3 : Value} {mod3 man3 : Option Addr} {msl3 : Array (Option Value)}
    (ma3 : PySem.W.findIn K (.ref CC) "boxed" = some (some (.ref mf3)))
    (mi3 : PySem.W.isFn K (.ref mf3) = true)
    (ml3 : K.lookup mf3 = some ⟨moc3, mod3, .func (PySem.W.fnOf "boxed" "Count.boxed" (defArgs s_Count_boxed) (defBody s_Count_boxed) (defScope s_Count_boxed) .none mkV3 mdc3 mpm3 man3 mcd3 mct3), msl3⟩)
    (mc3 : PySem.W.codeIn K mcd3 "Count.boxed" = true)
    (mk3 : PySem.W.keepIn K (.ref mf3) = true)
    : Tx K w mg where
  a__wall := f0
  d__wall := _
  F__wall := fun_mk (st := s__wall) l0 c0 k0
  g__wall := PySem.W.mg_of X G a0
  b__wall := (fun_mk (st := s__wall) l0 c0 k0).binds (ps := ["k"]) fun _ _ _ _ _ _ us hl => match us, hl with | [_], _ => rfl
  a_is_number := f1
  d_is_number := _
  F_is_number := fun_mk (st := s_is_number) l1 c1 k1
  g_is_number := PySem.W.mg_of X G a1
  b_is_number := (fun_mk (st := s_is_number) l1 c1 k1).binds (ps := ["value"]) fun _ _ _ _ _ _ us hl => match us, hl with | [_], _ => rfl
  a_is_kind := f2
  d_is_kind := _
  F_is_kind := fun_mk (st := s_is_kind) l2 c2 k2
  g_is_kind := PySem.W.mg_of X G a2
  b_is_kind := (fun_mk (st := s_is_kind) l2 c2 k2).binds (ps := ["value"]) fun _ _ _ _ _ _ us hl => match us, hl with | [_], _ => rfl
  a_nested := f3
  d_nested := _
  F_nested := fun_mk (st := s_nested) l3 c3 k3
  g_nested := PySem.W.mg_of X G a3
  b_nested := (fun_mk (st := s_nested) l3 c3 k3).binds (ps := ["outer", "inner"]) fun _ _ _ _ _ _ us hl => match us, hl with | [_, _], _ => rfl
  a_pooled := f4
  d_pooled := _
  F_pooled := fun_mk (st := s_pooled) l4 c4 k4
  g_pooled := PySem.W.mg_of X G a4
  b_pooled := (fun_mk (st := s_pooled) l4 c4 k4).binds (ps := ["first", "second"]) fun _ _ _ _ _ _ us hl => match us, hl with | [_, _], _ => rfl
  a_covers := f5
  d_covers := _
  F_covers := fun_mk (st := s_covers) l5 c5 k5
  g_covers := PySem.W.mg_of X G a5
  b_covers := (fun_mk (st := s_covers) l5 c5 k5).binds (ps := ["room", "kind"]) fun _ _ _ _ _ _ us hl => match us, hl with | [_, _], _ => rfl
  a_trade := f6
  d_trade := _
  F_trade := fun_mk (st := s_trade) l6 c6 k6
  g_trade := PySem.W.mg_of X G a6
  kb_trade := trade_kb (fun_mk (st := s_trade) l6 c6 k6)
  a_hold_of := f7
  d_hold_of := _
  F_hold_of := fun_mk (st := s_hold_of) l7 c7 k7
  g_hold_of := PySem.W.mg_of X G a7
  b_hold_of := (fun_mk (st := s_hold_of) l7 c7 k7).binds (ps := ["claim", "name"]) fun _ _ _ _ _ _ us hl => match us, hl with | [_, _], _ => rfl
  a_without_hold := f8
  d_without_hold := _
  F_without_hold := fun_mk (st := s_without_hold) l8 c8 k8
  g_without_hold := PySem.W.mg_of X G a8
  b_without_hold := (fun_mk (st := s_without_hold) l8 c8 k8).binds (ps := ["claim", "name"]) fun _ _ _ _ _ _ us hl => match us, hl with | [_, _], _ => rfl
  a_added := f9
  d_added := _
  F_added := fun_mk (st := s_added) l9 c9 k9
  g_added := PySem.W.mg_of X G a9
  b_added := (fun_mk (st := s_added) l9 c9 k9).binds (ps := ["first", "second"]) fun _ _ _ _ _ _ us hl => match us, hl with | [_, _], _ => rfl
  a_either := f10
  d_either := _
  F_either := fun_mk (st := s_either) l10 c10 k10
  g_either := PySem.W.mg_of X G a10
  b_either := (fun_mk (st := s_either) l10 c10 k10).binds (ps := ["first", "second"]) fun _ _ _ _ _ _ us hl => match us, hl with | [_, _], _ => rfl
  a_boxed_counts := f11
  d_boxed_counts := _
  F_boxed_counts := fun_mk (st := s_boxed_counts) l11 c11 k11
  g_boxed_counts := PySem.W.mg_of X G a11
  b_boxed_counts := (fun_mk (st := s_boxed_counts) l11 c11 k11).binds (ps := ["found", "kind"]) fun _ _ _ _ _ _ us hl => match us, hl with | [_, _], _ => rfl
  a_without := f12
  d_without := _
  F_without := fun_mk (st := s_without) l12 c12 k12
  g_without := PySem.W.mg_of X G a12
  b_without := (fun_mk (st := s_without) l12 c12 k12).binds (ps := ["found", "ref"]) fun _ _ _ _ _ _ us hl => match us, hl with | [_, _], _ => rfl
  a_counts := f13
  d_counts := _
  F_counts := fund_counts l13 c13 k13 lt
  g_counts := PySem.W.mg_of X G a13
  b_counts := counts_b (fund_counts l13 c13 k13 lt)
  dv_counts := Classical.choose (counts_d (fund_counts l13 c13 k13 lt))
  vd_counts := (Classical.choose_spec (counts_d (fund_counts l13 c13 k13 lt))).1
  bd_counts := (Classical.choose_spec (counts_d (fund_counts l13 c13 k13 lt))).2
  a_premises := f14
  d_premises := _
  F_premises := fun_mk (st := s_premises) l14 c14 k14
  g_premises := PySem.W.mg_of X G a14
  b_premises := (fun_mk (st := s_premises) l14 c14 k14).binds (ps := ["derivation"]) fun _ _ _ _ _ _ us hl => match us, hl with | [_], _ => rfl
  a_rebuilt := f15
  d_rebuilt := _
  F_rebuilt := fun_mk (st := s_rebuilt) l15 c15 k15
  g_rebuilt := PySem.W.mg_of X G a15
  b_rebuilt := (fun_mk (st := s_rebuilt) l15 c15 k15).binds (ps := ["derivation", "parts"]) fun _ _ _ _ _ _ us hl => match us, hl with | [_, _], _ => rfl
  a_refers_to := f16
  d_refers_to := _
  F_refers_to := fun_mk (st := s_refers_to) l16 c16 k16
  g_refers_to := PySem.W.mg_of X G a16
  b_refers_to := (fun_mk (st := s_refers_to) l16 c16 k16).binds (ps := ["derivation"]) fun _ _ _ _ _ _ us hl => match us, hl with | [_], _ => rfl
  a_moved_ref := f17
  d_moved_ref := _
  F_moved_ref := fun_mk (st := s_moved_ref) l17 c17 k17
  g_moved_ref := PySem.W.mg_of X G a17
  b_moved_ref := (fun_mk (st := s_moved_ref) l17 c17 k17).binds (ps := ["ref", "old", "new", "renamed"]) fun _ _ _ _ _ _ us hl => match us, hl with | [_, _, _, _], _ => rfl
  a_moved := f18
  d_moved := _
  F_moved := fun_mk (st := s_moved) l18 c18 k18
  g_moved := PySem.W.mg_of X G a18
  b_moved := (fun_mk (st := s_moved) l18 c18 k18).binds (ps := ["derivation", "old", "new", "renamed"]) fun _ _ _ _ _ _ us hl => match us, hl with | [_, _, _, _], _ => rfl
  a_with_kind := f19
  d_with_kind := _
  F_with_kind := fun_mk (st := s_with_kind) l19 c19 k19
  g_with_kind := PySem.W.mg_of X G a19
  b_with_kind := (fun_mk (st := s_with_kind) l19 c19 k19).binds (ps := ["claim", "name", "kind"]) fun _ _ _ _ _ _ us hl => match us, hl with | [_, _, _], _ => rfl
  a_with_room := f20
  d_with_room := _
  F_with_room := fun_mk (st := s_with_room) l20 c20 k20
  g_with_room := PySem.W.mg_of X G a20
  b_with_room := (fun_mk (st := s_with_room) l20 c20 k20).binds (ps := ["claim", "name", "kind"]) fun _ _ _ _ _ _ us hl => match us, hl with | [_, _, _], _ => rfl
  a_pooled_holds := f21
  d_pooled_holds := _
  F_pooled_holds := fun_mk (st := s_pooled_holds) l21 c21 k21
  g_pooled_holds := PySem.W.mg_of X G a21
  b_pooled_holds := (fun_mk (st := s_pooled_holds) l21 c21 k21).binds (ps := ["claim", "derivation", "first", "second"]) fun _ _ _ _ _ _ us hl => match us, hl with | [_, _, _, _], _ => rfl
  a_least_kinds := f22
  d_least_kinds := _
  F_least_kinds := fun_mk (st := s_least_kinds) l22 c22 k22
  g_least_kinds := PySem.W.mg_of X G a22
  b_least_kinds := (fun_mk (st := s_least_kinds) l22 c22 k22).binds (ps := ["claim", "derivation"]) fun _ _ _ _ _ _ us hl => match us, hl with | [_, _], _ => rfl
  a_abstracted := f23
  d_abstracted := _
  F_abstracted := fun_mk (st := s_abstracted) l23 c23 k23
  g_abstracted := PySem.W.mg_of X G a23
  b_abstracted := (fun_mk (st := s_abstracted) l23 c23 k23).binds (ps := ["claim", "derivation", "name"]) fun _ _ _ _ _ _ us hl => match us, hl with | [_, _, _], _ => rfl
  a__law_cell := f24
  d__law_cell := _
  F__law_cell := fun_mk (st := s__law_cell) l24 c24 k24
  g__law_cell := PySem.W.mg_of X G a24
  b__law_cell := (fun_mk (st := s__law_cell) l24 c24 k24).binds (ps := ["script", "k"]) fun _ _ _ _ _ _ us hl => match us, hl with | [_, _], _ => rfl
  a__law_pool := f25
  d__law_pool := _
  F__law_pool := fun_mk (st := s__law_pool) l25 c25 k25
  g__law_pool := PySem.W.mg_of X G a25
  b__law_pool := (fun_mk (st := s__law_pool) l25 c25 k25).binds (ps := ["script", "k"]) fun _ _ _ _ _ _ us hl => match us, hl with | [_, _], _ => rfl
  a__law_next := f26
  d__law_next := _
  F__law_next := fun_mk (st := s__law_next) l26 c26 k26
  g__law_next := PySem.W.mg_of X G a26
  b__law_next := (fun_mk (st := s__law_next) l26 c26 k26).binds (ps := ["pool", "many"]) fun _ _ _ _ _ _ us hl => match us, hl with | [_, _], _ => rfl
  a__law_new_name := f27
  d__law_new_name := _
  F__law_new_name := fun_mk (st := s__law_new_name) l27 c27 k27
  g__law_new_name := PySem.W.mg_of X G a27
  b__law_new_name := (fun_mk (st := s__law_new_name) l27 c27 k27).binds (ps := ["pool", "taken"]) fun _ _ _ _ _ _ us hl => match us, hl with | [_, _], _ => rfl
  a__law_sentence := f28
  d__law_sentence := _
  F__law_sentence := fun_mk (st := s__law_sentence) l28 c28 k28
  g__law_sentence := PySem.W.mg_of X G a28
  b__law_sentence := (fun_mk (st := s__law_sentence) l28 c28 k28).binds (ps := ["state", "depth"]) fun _ _ _ _ _ _ us hl => match us, hl with | [_, _], _ => rfl
  a__law_merge := f29
  d__law_merge := _
  F__law_merge := fun_mk (st := s__law_merge) l29 c29 k29
  g__law_merge := PySem.W.mg_of X G a29
  b__law_merge := (fun_mk (st := s__law_merge) l29 c29 k29).binds (ps := ["one", "two", "either_v"]) fun _ _ _ _ _ _ us hl => match us, hl with | [_, _, _], _ => rfl
  a__law_box := f30
  d__law_box := _
  F__law_box := fun_mk (st := s__law_box) l30 c30 k30
  g__law_box := PySem.W.mg_of X G a30
  b__law_box := (fun_mk (st := s__law_box) l30 c30 k30).binds (ps := ["found", "mode", "gone"]) fun _ _ _ _ _ _ us hl => match us, hl with | [_, _, _], _ => rfl
  a__law_counts := f31
  d__law_counts := _
  F__law_counts := fun_mk (st := s__law_counts) l31 c31 k31
  g__law_counts := PySem.W.mg_of X G a31
  b__law_counts := (fun_mk (st := s__law_counts) l31 c31 k31).binds (ps := ["tree", "level"]) fun _ _ _ _ _ _ us hl => match us, hl with | [_, _], _ => rfl
  a__law_row := f32
  d__law_row := _
  F__law_row := fun_mk (st := s__law_row) l32 c32 k32
  g__law_row := PySem.W.mg_of X G a32
  b__law_row := (fun_mk (st := s__law_row) l32 c32 k32).binds (ps := ["item"]) fun _ _ _ _ _ _ us hl => match us, hl with | [_], _ => rfl
  a__law_parts := f33
  d__law_parts := _
  F__law_parts := fun_mk (st := s__law_parts) l33 c33 k33
  g__law_parts := PySem.W.mg_of X G a33
  b__law_parts := (fun_mk (st := s__law_parts) l33 c33 k33).binds (ps := ["tree"]) fun _ _ _ _ _ _ us hl => match us, hl with | [_], _ => rfl
  a__law_moved := f34
  d__law_moved := _
  F__law_moved := fun_mk (st := s__law_moved) l34 c34 k34
  g__law_moved := PySem.W.mg_of X G a34
  b__law_moved := (fun_mk (st := s__law_moved) l34 c34 k34).binds (ps := ["tree", "old", "new", "names"]) fun _ _ _ _ _ _ us hl => match us, hl with | [_, _, _, _], _ => rfl
  a__law_mode := f35
  d__law_mode := _
  F__law_mode := fun_mk (st := s__law_mode) l35 c35 k35
  g__law_mode := PySem.W.mg_of X G a35
  b__law_mode := (fun_mk (st := s__law_mode) l35 c35 k35).binds (ps := ["pool", "room"]) fun _ _ _ _ _ _ us hl => match us, hl with | [_, _], _ => rfl
  a__law_ref := f36
  d__law_ref := _
  F__law_ref := fun_mk (st := s__law_ref) l36 c36 k36
  g__law_ref := PySem.W.mg_of X G a36
  b__law_ref := (fun_mk (st := s__law_ref) l36 c36 k36).binds (ps := ["state", "level"]) fun _ _ _ _ _ _ us hl => match us, hl with | [_, _], _ => rfl
  a__law_called := f37
  d__law_called := _
  F__law_called := fun_mk (st := s__law_called) l37 c37 k37
  g__law_called := PySem.W.mg_of X G a37
  b__law_called := (fun_mk (st := s__law_called) l37 c37 k37).binds (ps := ["state"]) fun _ _ _ _ _ _ us hl => match us, hl with | [_], _ => rfl
  a__law_free := f38
  d__law_free := _
  F__law_free := fun_mk (st := s__law_free) l38 c38 k38
  g__law_free := PySem.W.mg_of X G a38
  b__law_free := (fun_mk (st := s__law_free) l38 c38 k38).binds (ps := ["state", "level", "room", "depth"]) fun _ _ _ _ _ _ us hl => match us, hl with | [_, _, _, _], _ => rfl
  a__law_claim := f39
  d__law_claim := _
  F__law_claim := fun_mk (st := s__law_claim) l39 c39 k39
  g__law_claim := PySem.W.mg_of X G a39
  b__law_claim := (fun_mk (st := s__law_claim) l39 c39 k39).binds (ps := ["state", "many"]) fun _ _ _ _ _ _ us hl => match us, hl with | [_, _], _ => rfl
  a__law_group := f40
  d__law_group := _
  F__law_group := fun_mk (st := s__law_group) l40 c40 k40
  g__law_group := PySem.W.mg_of X G a40
  b__law_group := (fun_mk (st := s__law_group) l40 c40 k40).binds (ps := ["claim"]) fun _ _ _ _ _ _ us hl => match us, hl with | [_], _ => rfl
  a__law_begin := f41
  d__law_begin := _
  F__law_begin := fun_mk (st := s__law_begin) l41 c41 k41
  g__law_begin := PySem.W.mg_of X G a41
  b__law_begin := (fun_mk (st := s__law_begin) l41 c41 k41).binds (ps := ["script"]) fun _ _ _ _ _ _ us hl => match us, hl with | [_], _ => rfl
  a__law_same := f42
  d__law_same := _
  F__law_same := fun_mk (st := s__law_same) l42 c42 k42
  g__law_same := PySem.W.mg_of X G a42
  b__law_same := (fun_mk (st := s__law_same) l42 c42 k42).binds (ps := ["told", "due"]) fun _ _ _ _ _ _ us hl => match us, hl with | [_, _], _ => rfl
  a__law_fitted := f43
  d__law_fitted := _
  F__law_fitted := fun_mk (st := s__law_fitted) l43 c43 k43
  g__law_fitted := PySem.W.mg_of X G a43
  b__law_fitted := (fun_mk (st := s__law_fitted) l43 c43 k43).binds (ps := ["claim", "tree"]) fun _ _ _ _ _ _ us hl => match us, hl with | [_, _], _ => rfl
  a__law_least := f44
  d__law_least := _
  F__law_least := fun_mk (st := s__law_least) l44 c44 k44
  g__law_least := PySem.W.mg_of X G a44
  b__law_least := (fun_mk (st := s__law_least) l44 c44 k44).binds (ps := ["claim", "tree"]) fun _ _ _ _ _ _ us hl => match us, hl with | [_, _], _ => rfl
  a__law_boxes := f45
  d__law_boxes := _
  F__law_boxes := fun_mk (st := s__law_boxes) l45 c45 k45
  g__law_boxes := PySem.W.mg_of X G a45
  b__law_boxes := (fun_mk (st := s__law_boxes) l45 c45 k45).binds (ps := ["tree", "boxes", "found"]) fun _ _ _ _ _ _ us hl => match us, hl with | [_, _, _], _ => rfl
  a__law_nested := f46
  d__law_nested := _
  F__law_nested := fun_mk (st := s__law_nested) l46 c46 k46
  g__law_nested := PySem.W.mg_of X G a46
  b__law_nested := (fun_mk (st := s__law_nested) l46 c46 k46).binds (ps := ["boxes", "told"]) fun _ _ _ _ _ _ us hl => match us, hl with | [_, _], _ => rfl
  a__law_singles := f47
  d__law_singles := _
  F__law_singles := fun_mk (st := s__law_singles) l47 c47 k47
  g__law_singles := PySem.W.mg_of X G a47
  b__law_singles := (fun_mk (st := s__law_singles) l47 c47 k47).binds (ps := ["claim", "tree"]) fun _ _ _ _ _ _ us hl => match us, hl with | [_, _], _ => rfl
  a__law_row_of := f48
  d__law_row_of := _
  F__law_row_of := fun_mk (st := s__law_row_of) l48 c48 k48
  g__law_row_of := PySem.W.mg_of X G a48
  b__law_row_of := (fun_mk (st := s__law_row_of) l48 c48 k48).binds (ps := ["claim", "name"]) fun _ _ _ _ _ _ us hl => match us, hl with | [_, _], _ => rfl
  a__law_pooled := f49
  d__law_pooled := _
  F__law_pooled := fun_mk (st := s__law_pooled) l49 c49 k49
  g__law_pooled := PySem.W.mg_of X G a49
  b__law_pooled := (fun_mk (st := s__law_pooled) l49 c49 k49).binds (ps := ["claim", "tree", "first", "second"]) fun _ _ _ _ _ _ us hl => match us, hl with | [_, _, _, _], _ => rfl
  a__law_taken := f50
  d__law_taken := _
  F__law_taken := fun_mk (st := s__law_taken) l50 c50 k50
  g__law_taken := PySem.W.mg_of X G a50
  b__law_taken := (fun_mk (st := s__law_taken) l50 c50 k50).binds (ps := ["claim", "tree", "name"]) fun _ _ _ _ _ _ us hl => match us, hl with | [_, _, _], _ => rfl
  a__law_widened := f51
  d__law_widened := _
  F__law_widened := fun_mk (st := s__law_widened) l51 c51 k51
  g__law_widened := PySem.W.mg_of X G a51
  b__law_widened := (fun_mk (st := s__law_widened) l51 c51 k51).binds (ps := ["claim", "name", "mode"]) fun _ _ _ _ _ _ us hl => match us, hl with | [_, _, _], _ => rfl
  a__law_tried := f52
  d__law_tried := _
  F__law_tried := fun_mk (st := s__law_tried) l52 c52 k52
  g__law_tried := PySem.W.mg_of X G a52
  b__law_tried := (fun_mk (st := s__law_tried) l52 c52 k52).binds (ps := ["form", "claim", "tree", "one", "two"]) fun _ _ _ _ _ _ us hl => match us, hl with | [_, _, _, _, _], _ => rfl
  a__law_agrees := f53
  d__law_agrees := _
  F__law_agrees := fun_mk (st := s__law_agrees) l53 c53 k53
  g__law_agrees := PySem.W.mg_of X G a53
  b__law_agrees := (fun_mk (st := s__law_agrees) l53 c53 k53).binds (ps := ["told", "due"]) fun _ _ _ _ _ _ us hl => match us, hl with | [_, _], _ => rfl
  a__law_pairs := f54
  d__law_pairs := _
  F__law_pairs := fun_mk (st := s__law_pairs) l54 c54 k54
  g__law_pairs := PySem.W.mg_of X G a54
  b__law_pairs := (fun_mk (st := s__law_pairs) l54 c54 k54).binds (ps := ["state"]) fun _ _ _ _ _ _ us hl => match us, hl with | [_], _ => rfl
  a__law_joins := f55
  d__law_joins := _
  F__law_joins := fun_mk (st := s__law_joins) l55 c55 k55
  g__law_joins := PySem.W.mg_of X G a55
  b__law_joins := (fun_mk (st := s__law_joins) l55 c55 k55).binds (ps := ["state"]) fun _ _ _ _ _ _ us hl => match us, hl with | [_], _ => rfl
  a__law_three := f56
  d__law_three := _
  F__law_three := fun_mk (st := s__law_three) l56 c56 k56
  g__law_three := PySem.W.mg_of X G a56
  b__law_three := (fun_mk (st := s__law_three) l56 c56 k56).binds (ps := ["state"]) fun _ _ _ _ _ _ us hl => match us, hl with | [_], _ => rfl
  a__law_lifted := f57
  d__law_lifted := _
  F__law_lifted := fun_mk (st := s__law_lifted) l57 c57 k57
  g__law_lifted := PySem.W.mg_of X G a57
  b__law_lifted := (fun_mk (st := s__law_lifted) l57 c57 k57).binds (ps := ["state"]) fun _ _ _ _ _ _ us hl => match us, hl with | [_], _ => rfl
  a__law_given := f58
  d__law_given := _
  F__law_given := fun_mk (st := s__law_given) l58 c58 k58
  g__law_given := PySem.W.mg_of X G a58
  b__law_given := (fun_mk (st := s__law_given) l58 c58 k58).binds (ps := ["pool", "claim", "name"]) fun _ _ _ _ _ _ us hl => match us, hl with | [_, _, _], _ => rfl
  a__law_rooms := f59
  d__law_rooms := _
  F__law_rooms := fun_mk (st := s__law_rooms) l59 c59 k59
  g__law_rooms := PySem.W.mg_of X G a59
  b__law_rooms := (fun_mk (st := s__law_rooms) l59 c59 k59).binds (ps := ["state"]) fun _ _ _ _ _ _ us hl => match us, hl with | [_], _ => rfl
  a_law := f60
  d_law := _
  F_law := fun_mk (st := s_law) l60 c60 k60
  g_law := PySem.W.mg_of X G a60
  b_law := (fun_mk (st := s_law) l60 c60 k60).binds (ps := ["script"]) fun _ _ _ _ _ _ us hl => match us, hl with | [_], _ => rfl
  z_abs := PySem.W.mg_none_of X G z0
  z_bool := PySem.W.mg_none_of X G z1
  z_int := PySem.W.mg_none_of X G z2
  z_isinstance := PySem.W.mg_none_of X G z3
  z_len := PySem.W.mg_none_of X G z4
  z_list := PySem.W.mg_none_of X G z5
  z_max := PySem.W.mg_none_of X G z6
  z_min := PySem.W.mg_none_of X G z7
  z_range := PySem.W.mg_none_of X G z8
  z_reversed := PySem.W.mg_none_of X G z9
  z_str := PySem.W.mg_none_of X G z10
  z_tuple := PySem.W.mg_none_of X G z11
  z_ValueError := PySem.W.mg_none_of X G z12
  p_PREMISES := p0
  g_PREMISES := PySem.W.mg_of X G d0
  prem := fun t => match t with | .own _ => ⟨es0, n0, _, d1, d2, e0, t0, rfl⟩ | .cite _ => ⟨es0, n0, _, d1, d2, e1, t1, rfl⟩ | .take _ => ⟨es0, n0, _, d1, d2, e2, t2, rfl⟩ | .pick _ _ _ => ⟨es0, n0, _, d1, d2, e3, t3, rfl⟩ | .make _ _ _ => ⟨es0, n0, _, d1, d2, e4, t4, rfl⟩ | .opn _ _ _ _ => ⟨es0, n0, _, d1, d2, e5, t5, rfl⟩ | .offer _ _ => ⟨es0, n0, _, d1, d2, e6, t6, rfl⟩ | .pay _ _ _ _ => ⟨es0, n0, _, d1, d2, e7, t7, rfl⟩ | .cut _ _ _ _ => ⟨es0, n0, _, d1, d2, e8, t8, rfl⟩
  c_HeldError := cB
  mc_HeldError := .type "type"
  gc_HeldError := PySem.W.mg_of X G h0
  b_HeldError := ⟨h1, h2, h3, h4⟩
  c_UnknownName := C0
  fi_UnknownName := I0
  di_UnknownName := _
  gc_UnknownName := PySem.W.mg_of X G xa0
  o_UnknownName := ⟨⟨nm0, q0, N0, bs0, _, sn0, sub0, ab0, col0, dd0, m00, m10, m20, m30, m50, xl0, rfl⟩, xs0, xe0, xy0, xk0⟩
  i_UnknownName := xi0
  ti_UnknownName := xt0
  Fi_UnknownName := fun_mk (st := s_UnknownName) yl0 yc0 yk0
  bi_UnknownName := (fun_mk (st := s_UnknownName) yl0 yc0 yk0).binds (ps := ["self", "name"]) fun _ _ _ _ _ _ us hl => match us, hl with | [_, _], _ => rfl
  n_UnknownName := xn0
  x_UnknownName := ⟨xg0, xh0, xe0, xd0⟩
  e_UnknownName := ⟨xg0, xh0, xe0, xd0, xc0, h5, h6, xm0⟩
  kb_UnknownName := HX.kit_own h7 h8 xb0 xx0
  kv_UnknownName := HX.kit_ve xv0
  mm_UnknownName := PySem.W.exm_ref xe0 xd0 xy0 xx0
  c_NoRoom := C1
  fi_NoRoom := I1
  di_NoRoom := _
  gc_NoRoom := PySem.W.mg_of X G xa1
  o_NoRoom := ⟨⟨nm1, q1, N1, bs1, _, sn1, sub1, ab1, col1, dd1, m01, m11, m21, m31, m51, xl1, rfl⟩, xs1, xe1, xy1, xk1⟩
  i_NoRoom := xi1
  ti_NoRoom := xt1
  Fi_NoRoom := fun_mk (st := s_NoRoom) yl1 yc1 yk1
  bi_NoRoom := (fun_mk (st := s_NoRoom) yl1 yc1 yk1).binds (ps := ["self", "name"]) fun _ _ _ _ _ _ us hl => match us, hl with | [_, _], _ => rfl
  n_NoRoom := xn1
  x_NoRoom := ⟨xg1, xh1, xe1, xd1⟩
  e_NoRoom := ⟨xg1, xh1, xe1, xd1, xc1, h5, h6, xm1⟩
  kb_NoRoom := HX.kit_own h7 h8 xb1 xx1
  kv_NoRoom := HX.kit_ve xv1
  mm_NoRoom := PySem.W.exm_ref xe1 xd1 xy1 xx1
  mo_UnknownName := PySem.W.exm_ref xe1 xd1 xy1 o0
  ko_UnknownName := HX.kit_own xd1 xy1 o0 xx0
  mo_NoRoom := PySem.W.exm_ref xe0 xd0 xy0 o1
  ko_NoRoom := HX.kit_own xd0 xy0 o1 xx1
  c_Count := CC
  gc_Count := PySem.W.mg_of X G ca0
  cl_Count := ⟨ca1, ca2, ca3, ca4⟩
  sf_Count := ca5
  n_least := ca6
  n_most := ca7
  n_days := ca8
  a_Count_init := mf0
  d_Count_init := _
  F_Count_init := fun_mk (st := s_Count_init) ml0 mc0 mk0
  b_Count_init := (fun_mk (st := s_Count_init) ml0 mc0 mk0).binds (ps := ["self", "least", "most", "days"]) fun _ _ _ _ _ _ us hl => match us, hl with | [_, _, _, _], _ => rfl
  a_Count_add := mf1
  d_Count_add := _
  F_Count_add := fun_mk (st := s_Count_add) ml1 mc1 mk1
  b_Count_add := (fun_mk (st := s_Count_add) ml1 mc1 mk1).binds (ps := ["self", "other"]) fun _ _ _ _ _ _ us hl => match us, hl with | [_, _], _ => rfl
  a_Count_or := mf2
  d_Count_or := _
  F_Count_or := fun_mk (st := s_Count_or) ml2 mc2 mk2
  b_Count_or := (fun_mk (st := s_Count_or) ml2 mc2 mk2).binds (ps := ["self", "other"]) fun _ _ _ _ _ _ us hl => match us, hl with | [_, _], _ => rfl
  a_Count_boxed := mf3
  d_Count_boxed := _
  F_Count_boxed := fun_mk (st := s_Count_boxed) ml3 mc3 mk3
  b_Count_boxed := (fun_mk (st := s_Count_boxed) ml3 mc3 mk3).binds (ps := ["self", "kind"]) fun _ _ _ _ _ _ us hl => match us, hl with | [_, _], _ => rfl
  mk_Count := ⟨ca9, ma0, mi0, cak⟩
  fi_Count_add := by rw [show PySem.dunder Operator.Add.info.2 = ("__add__" : Str) by decide +kernel]; exact ma1
  fn_Count_add := mi1
  fi_Count_or := by rw [show PySem.dunder Operator.BitOr.info.2 = ("__or__" : Str) by decide +kernel]; exact ma2
  fn_Count_or := mi2
  me_Count_boxed := ⟨ma3, mi3, mk3⟩
theorem law_binds {K : PySem.W.Frag} {f : Addr} {fd : FuncData} (F : Fun K "law" "law" s_law f fd) : ∀ (s : Shared) (u : Value), BindsTo s fd ⟨[u], []⟩ [("script", u)] := by
  obtain ⟨oc, od, kV, doc, pm, an, cdv, ct, osl, e, lk, hcd⟩ := F.ex
  subst e
  exact fun s u => .of_eq rfl
theorem of_tx {P : Program} {w : World} {K : PySem.W.Frag} {mg : Str → Option Value} {fa : Addr} (T : Tx K w mg) (h : mg "law" = some (.ref fa)) :
    ∃ fd : FuncData, (∀ (s : Shared) (u : Value), BindsTo s fd ⟨[u], []⟩ [("script", u)]) ∧
      ∀ base : Heap, K.In base → base.Ns mainGlobals mg → GnOk P w K mg base CX0 94 fa fd ["script"] (spLaw K) := by
  have e : fa = T.a_law := by
    have q := T.g_law
    rw [h] at q
    cases q
    rfl
  subst e
  exact ⟨T.d_law, law_binds T.F_law, fun base _ _ => GnOk.of (ok_law T)⟩
end HA
open PySem PySem.W PyProof.Rows
set_option maxRecDepth 100000 in
set_option maxHeartbeats 0 in
theorem PySem.Challenge.cw_heldanswers_k10_claims_mended_by_form_holds : PySem.Challenge.rw_heldanswers_k10_claims_mended_by_form.Holds := by
  w_on; o_law; k_head; (case hw => w_witness2)
  k_fill
  refine HA.walk_ofG (n := 63) (k := 94) (x := "script") (sp := HA.spLaw) (l := PySem.Challenge.rw_heldanswers_k10_claims_mended_by_form) rfl (by decide) rfl ⟨rfl, by decide, by decide⟩ (fun w h Y => PySem.W.kIn_of Y) ?F fun K H a ns hs => ⟨a, ns, rfl, hs, fun _ => rfl⟩
  case F =>
    intro w mg fa h KX G hmg
    refine' HA.of_tx (HA.all_tx (w := w) KX G ?a0 ?l0 ?c0 ?k0 ?a1 ?l1 ?c1 ?k1 ?a2 ?l2 ?c2 ?k2 ?a3 ?l3 ?c3 ?k3 ?a4 ?l4 ?c4 ?k4 ?a5 ?l5 ?c5 ?k5 ?a6 ?l6 ?c6 ?k6 ?a7 ?l7 ?c7 ?k7 ?a8 ?l8 ?c8 ?k8 ?a9 ?l9 ?c9 ?k9 ?a10 ?l10 ?c10 ?k10 ?a11 ?l11 ?c11 ?k11 ?a12 ?l12 ?c12 ?k12 ?a13 ?l13 ?c13 ?k13 ?lt ?a14 ?l14 ?c14 ?k14 ?a15 ?l15 ?c15 ?k15 ?a16 ?l16 ?c16 ?k16 ?a17 ?l17 ?c17 ?k17 ?a18 ?l18 ?c18 ?k18 ?a19 ?l19 ?c19 ?k19 ?a20 ?l20 ?c20 ?k20 ?a21 ?l21 ?c21 ?k21 ?a22 ?l22 ?c22 ?k22 ?a23 ?l23 ?c23 ?k23 ?a24 ?l24 ?c24 ?k24 ?a25 ?l25 ?c25 ?k25 ?a26 ?l26 ?c26 ?k26 ?a27 ?l27 ?c27 ?k27 ?a28 ?l28 ?c28 ?k28 ?a29 ?l29 ?c29 ?k29 ?a30 ?l30 ?c30 ?k30 ?a31 ?l31 ?c31 ?k31 ?a32 ?l32 ?c32 ?k32 ?a33 ?l33 ?c33 ?k33 ?a34 ?l34 ?c34 ?k34 ?a35 ?l35 ?c35 ?k35 ?a36 ?l36 ?c36 ?k36 ?a37 ?l37 ?c37 ?k37 ?a38 ?l38 ?c38 ?k38 ?a39 ?l39 ?c39 ?k39 ?a40 ?l40 ?c40 ?k40 ?a41 ?l41 ?c41 ?k41 ?a42 ?l42 ?c42 ?k42 ?a43 ?l43 ?c43 ?k43 ?a44 ?l44 ?c44 ?k44 ?a45 ?l45 ?c45 ?k45 ?a46 ?l46 ?c46 ?k46 ?a47 ?l47 ?c47 ?k47 ?a48 ?l48 ?c48 ?k48 ?a49 ?l49 ?c49 ?k49 ?a50 ?l50 ?c50 ?k50 ?a51 ?l51 ?c51 ?k51 ?a52 ?l52 ?c52 ?k52 ?a53 ?l53 ?c53 ?k53 ?a54 ?l54 ?c54 ?k54 ?a55 ?l55 ?c55 ?k55 ?a56 ?l56 ?c56 ?k56 ?a57 ?l57 ?c57 ?k57 ?a58 ?l58 ?c58 ?k58 ?a59 ?l59 ?c59 ?k59 ?a60 ?l60 ?c60 ?k60 ?z0 ?z1 ?z2 ?z3 ?z4 ?z5 ?z6 ?z7 ?z8 ?z9 ?z10 ?z11 ?z12 ?d0 ?d1 ?d2 ?e0 ?e1 ?e2 ?e3 ?e4 ?e5 ?e6 ?e7 ?e8 ?h0 ?h1 ?h2 ?h3 ?h4 ?h7 ?h8 ?h5 ?h6 ?xa0 ?xl0 ?xs0 ?xg0 ?xh0 ?xn0 ?xi0 ?xt0 ?yl0 ?yc0 ?yk0 ?xk0 ?xe0 ?xy0 ?xd0 ?xc0 ?xm0 ?xb0 ?xv0 ?xx0 ?xa1 ?xl1 ?xs1 ?xg1 ?xh1 ?xn1 ?xi1 ?xt1 ?yl1 ?yc1 ?yk1 ?xk1 ?xe1 ?xy1 ?xd1 ?xc1 ?xm1 ?xb1 ?xv1 ?xx1 ?o0 ?o1 ?ca0 ?ca1 ?ca2 ?ca3 ?ca4 ?ca5 ?ca6 ?ca7 ?ca8 ?ca9 ?cak ?ma0 ?mi0 ?ml0 ?mc0 ?mk0 ?ma1 ?mi1 ?ml1 ?mc1 ?mk1 ?ma2 ?mi2 ?ml2 ?mc2 ?mk2 ?ma3 ?mi3 ?ml3 ?mc3 ?mk3) hmg
    (case a0 => k_is)
    (case l0 => k_is)
    (case c0 => k_is)
    (case k0 => k_is)
    (case a1 => k_is)
    (case l1 => k_is)
    (case c1 => k_is)
    (case k1 => k_is)
    (case a2 => k_is)
    (case l2 => k_is)
    (case c2 => k_is)
    (case k2 => k_is)
    (case a3 => k_is)
    (case l3 => k_is)
    (case c3 => k_is)
    (case k3 => k_is)
    (case a4 => k_is)
    (case l4 => k_is)
    (case c4 => k_is)
    (case k4 => k_is)
    (case a5 => k_is)
    (case l5 => k_is)
    (case c5 => k_is)
    (case k5 => k_is)
    (case a6 => k_is)
    (case l6 => k_is)
    (case c6 => k_is)
    (case k6 => k_is)
    (case a7 => k_is)
    (case l7 => k_is)
    (case c7 => k_is)
    (case k7 => k_is)
    (case a8 => k_is)
    (case l8 => k_is)
    (case c8 => k_is)
    (case k8 => k_is)
    (case a9 => k_is)
    (case l9 => k_is)
    (case c9 => k_is)
    (case k9 => k_is)
    (case a10 => k_is)
    (case l10 => k_is)
    (case c10 => k_is)
    (case k10 => k_is)
    (case a11 => k_is)
    (case l11 => k_is)
    (case c11 => k_is)
    (case k11 => k_is)
    (case a12 => k_is)
    (case l12 => k_is)
    (case c12 => k_is)
    (case k12 => k_is)
    (case a13 => k_is)
    (case l13 => k_is)
    (case c13 => k_is)
    (case k13 => k_is)
    (case lt => k_is)
    (case a14 => k_is)
    (case l14 => k_is)
    (case c14 => k_is)
    (case k14 => k_is)
    (case a15 => k_is)
    (case l15 => k_is)
    (case c15 => k_is)
    (case k15 => k_is)
    (case a16 => k_is)
    (case l16 => k_is)
    (case c16 => k_is)
    (case k16 => k_is)
    (case a17 => k_is)
    (case l17 => k_is)
    (case c17 => k_is)
    (case k17 => k_is)
    (case a18 => k_is)
    (case l18 => k_is)
    (case c18 => k_is)
    (case k18 => k_is)
    (case a19 => k_is)
    (case l19 => k_is)
    (case c19 => k_is)
    (case k19 => k_is)
    (case a20 => k_is)
    (case l20 => k_is)
    (case c20 => k_is)
    (case k20 => k_is)
    (case a21 => k_is)
    (case l21 => k_is)
    (case c21 => k_is)
    (case k21 => k_is)
    (case a22 => k_is)
    (case l22 => k_is)
    (case c22 => k_is)
    (case k22 => k_is)
    (case a23 => k_is)
    (case l23 => k_is)
    (case c23 => k_is)
    (case k23 => k_is)
    (case a24 => k_is)
    (case l24 => k_is)
    (case c24 => k_is)
    (case k24 => k_is)
    (case a25 => k_is)
    (case l25 => k_is)
    (case c25 => k_is)
    (case k25 => k_is)
    (case a26 => k_is)
    (case l26 => k_is)
    (case c26 => k_is)
    (case k26 => k_is)
    (case a27 => k_is)
    (case l27 => k_is)
    (case c27 => k_is)
    (case k27 => k_is)
    (case a28 => k_is)
    (case l28 => k_is)
    (case c28 => k_is)
    (case k28 => k_is)
    (case a29 => k_is)
    (case l29 => k_is)
    (case c29 => k_is)
    (case k29 => k_is)
    (case a30 => k_is)
    (case l30 => k_is)
    (case c30 => k_is)
    (case k30 => k_is)
    (case a31 => k_is)
    (case l31 => k_is)
    (case c31 => k_is)
    (case k31 => k_is)
    (case a32 => k_is)
    (case l32 => k_is)
    (case c32 => k_is)
    (case k32 => k_is)
    (case a33 => k_is)
    (case l33 => k_is)
    (case c33 => k_is)
    (case k33 => k_is)
    (case a34 => k_is)
    (case l34 => k_is)
    (case c34 => k_is)
    (case k34 => k_is)
    (case a35 => k_is)
    (case l35 => k_is)
    (case c35 => k_is)
    (case k35 => k_is)
    (case a36 => k_is)
    (case l36 => k_is)
    (case c36 => k_is)
    (case k36 => k_is)
    (case a37 => k_is)
    (case l37 => k_is)
    (case c37 => k_is)
    (case k37 => k_is)
    (case a38 => k_is)
    (case l38 => k_is)
    (case c38 => k_is)
    (case k38 => k_is)
    (case a39 => k_is)
    (case l39 => k_is)
    (case c39 => k_is)
    (case k39 => k_is)
    (case a40 => k_is)
    (case l40 => k_is)
    (case c40 => k_is)
    (case k40 => k_is)
    (case a41 => k_is)
    (case l41 => k_is)
    (case c41 => k_is)
    (case k41 => k_is)
    (case a42 => k_is)
    (case l42 => k_is)
    (case c42 => k_is)
    (case k42 => k_is)
    (case a43 => k_is)
    (case l43 => k_is)
    (case c43 => k_is)
    (case k43 => k_is)
    (case a44 => k_is)
    (case l44 => k_is)
    (case c44 => k_is)
    (case k44 => k_is)
    (case a45 => k_is)
    (case l45 => k_is)
    (case c45 => k_is)
    (case k45 => k_is)
    (case a46 => k_is)
    (case l46 => k_is)
    (case c46 => k_is)
    (case k46 => k_is)
    (case a47 => k_is)
    (case l47 => k_is)
    (case c47 => k_is)
    (case k47 => k_is)
    (case a48 => k_is)
    (case l48 => k_is)
    (case c48 => k_is)
    (case k48 => k_is)
    (case a49 => k_is)
    (case l49 => k_is)
    (case c49 => k_is)
    (case k49 => k_is)
    (case a50 => k_is)
    (case l50 => k_is)
    (case c50 => k_is)
    (case k50 => k_is)
    (case a51 => k_is)
    (case l51 => k_is)
    (case c51 => k_is)
    (case k51 => k_is)
    (case a52 => k_is)
    (case l52 => k_is)
    (case c52 => k_is)
    (case k52 => k_is)
    (case a53 => k_is)
    (case l53 => k_is)
    (case c53 => k_is)
    (case k53 => k_is)
    (case a54 => k_is)
    (case l54 => k_is)
    (case c54 => k_is)
    (case k54 => k_is)
    (case a55 => k_is)
    (case l55 => k_is)
    (case c55 => k_is)
    (case k55 => k_is)
    (case a56 => k_is)
    (case l56 => k_is)
    (case c56 => k_is)
    (case k56 => k_is)
    (case a57 => k_is)
    (case l57 => k_is)
    (case c57 => k_is)
    (case k57 => k_is)
    (case a58 => k_is)
    (case l58 => k_is)
    (case c58 => k_is)
    (case k58 => k_is)
    (case a59 => k_is)
    (case l59 => k_is)
    (case c59 => k_is)
    (case k59 => k_is)
    (case a60 => k_is)
    (case l60 => k_is)
    (case c60 => k_is)
    (case k60 => k_is)
    (case z0 => k_is)
    (case z1 => k_is)
    (case z2 => k_is)
    (case z3 => k_is)
    (case z4 => k_is)
    (case z5 => k_is)
    (case z6 => k_is)
    (case z7 => k_is)
    (case z8 => k_is)
    (case z9 => k_is)
    (case z10 => k_is)
    (case z11 => k_is)
    (case z12 => k_is)
    (case d0 => k_is)
    (case d1 => k_is)
    (case d2 => repeat (first | exact trivial | refine ⟨⟨_, _, rfl, rfl⟩, ?_⟩))
    (case e0 => k_is)
    (case e1 => k_is)
    (case e2 => k_is)
    (case e3 => k_is)
    (case e4 => k_is)
    (case e5 => k_is)
    (case e6 => k_is)
    (case e7 => k_is)
    (case e8 => k_is)
    (case h0 => k_is)
    (case h1 => k_is)
    (case h2 => k_is)
    (case h3 => k_is)
    (case h4 => k_is)
    (case h7 => k_is)
    (case h8 => k_is)
    (case h5 => k_is)
    (case h6 => k_is)
    (case xa0 => k_is)
    (case xl0 => k_is)
    (case xs0 => k_is)
    (case xg0 => k_is)
    (case xh0 => k_is)
    (case xn0 => k_is)
    (case xi0 => k_is)
    (case xt0 => k_is)
    (case yl0 => k_is)
    (case yc0 => k_is)
    (case yk0 => k_is)
    (case xk0 => k_is)
    (case xe0 => k_is)
    (case xy0 => k_is)
    (case xd0 => k_is)
    (case xc0 => k_is)
    (case xm0 => k_is)
    (case xb0 => k_is)
    (case xv0 => k_is)
    (case xx0 => k_is)
    (case xa1 => k_is)
    (case xl1 => k_is)
    (case xs1 => k_is)
    (case xg1 => k_is)
    (case xh1 => k_is)
    (case xn1 => k_is)
    (case xi1 => k_is)
    (case xt1 => k_is)
    (case yl1 => k_is)
    (case yc1 => k_is)
    (case yk1 => k_is)
    (case xk1 => k_is)
    (case xe1 => k_is)
    (case xy1 => k_is)
    (case xd1 => k_is)
    (case xc1 => k_is)
    (case xm1 => k_is)
    (case xb1 => k_is)
    (case xv1 => k_is)
    (case xx1 => k_is)
    (case o0 => k_is)
    (case o1 => k_is)
    (case ca0 => k_is)
    (case ca1 => k_is)
    (case ca2 => k_is)
    (case ca3 => k_is)
    (case ca4 => k_is)
    (case ca5 => k_is)
    (case ca6 => k_is)
    (case ca7 => k_is)
    (case ca8 => k_is)
    (case ca9 => k_is)
    (case cak => k_is)
    (case ma0 => k_is)
    (case mi0 => k_is)
    (case ml0 => k_is)
    (case mc0 => k_is)
    (case mk0 => k_is)
    (case ma1 => k_is)
    (case mi1 => k_is)
    (case ml1 => k_is)
    (case mc1 => k_is)
    (case mk1 => k_is)
    (case ma2 => k_is)
    (case mi2 => k_is)
    (case ml2 => k_is)
    (case mc2 => k_is)
    (case mk2 => k_is)
    (case ma3 => k_is)
    (case mi3 => k_is)
    (case ml3 => k_is)
    (case mc3 => k_is)
    (case mk3 => k_is)

