import PyProof.Rows.All
import Wide.All
import OpenK.AllK
import Wide.FinOn
import HandS.ForMost
import HandS.TupAny
import HandS.Conv
import HandS.More
import HandS.IsInst
import HandS.Dict
import HandS.DictComp
import HandS.NoneIn
import HandS.Wide
import HandS.Walk
import HandS.Codes
import PyProof.ReprRoads
import HandS.Ends
import PySem.Challenge.RW_heldanswers_k00_moves_in_two_hops
set_option Elab.async false
set_option linter.all false
set_option maxRecDepth 100000
set_option maxHeartbeats 8000000
/-! Calls where no repr is under way: the same as FnOk, with one more fact of the surroundings. -/
namespace HA
open PySem PySem.Spec PyProof.Rows L2
structure GnOk (P : Program) (w : World) (K : PySem.W.Frag) (mg : Str → Option Value) (base : Heap)
    (CX : CXT) (k : Nat) (f : Addr) (fd : FuncData) (ps : List Str) (sp : Sp) : Prop where
  size : ∀ vs H Q E, sp vs H Q E → vs.length = ps.length
  does : ∀ (A : Around) (outer : List Env) (s : Shared) (H : Hp) (args : Args) (us : List Value)
    (vs : List V) (Q : VK) (E : XK), A.guards = some [] → Room k A → Env0 P w K mg base A outer s H →
    BindsTo s fd args (ps.zip us) → Vals vs us → sp vs H Q E →
    codeAny (model P w) A (.call (.ref f) args) (CR CX outer P w H s Q E) s
section
variable {P : Program} {w : World} {K : PySem.W.Frag} {mg : Str → Option Value} {base : Heap}
theorem GnOk.up {CX : CXT} {j k : Nat} {f : Addr} {fd : FuncData} {ps : List Str} {sp : Sp}
    (F : GnOk P w K mg base CX j f fd ps sp) (h : j ≤ k) : GnOk P w K mg base CX k f fd ps sp :=
  ⟨F.size, fun A outer s H args us vs Q E hg hr => F.does A outer s H args us vs Q E hg (hr.mono h)⟩
theorem GnOk.of {CX : CXT} {k : Nat} {f : Addr} {fd : FuncData} {ps : List Str} {sp : Sp}
    (F : FnOk P w K mg base CX k f fd ps sp) : GnOk P w K mg base CX k f fd ps sp :=
  ⟨F.len, fun A outer s H args us vs Q E _ hr => F.run A outer s H args us vs Q E hr⟩
theorem gn_ok {x qual : Str} {st : Stmt} {f : Addr} {fd : FuncData} {N ps : List Str} {k : Nat} {sp : Sp}
    (F : Fun K x qual st f fd) (S : FnScope N ps (defScope st))
    (size : ∀ vs H Q E, sp vs H Q E → vs.length = ps.length)
    (body : ∀ (cdv : Value) (A : Around) (outer : List Env) (s : Shared) (H : Hp) (vs : List V) (Q : VK) (E : XK),
      A.guards = some [] → Room k (A.deeper (envOfC qual (defScope st) s.heap.objs.size f cdv)) → sp vs H Q E →
      ∃ t, PSs (cxOf CX0 P w K mg base N qual (defScope st) f cdv A outer s H E).nox (defBody st) t ∧
        t { nx := fun _ H' => Q .non H', rt := Q } (start N vs) H) :
    GnOk P w K mg base CX0 (k + 1) f fd ps sp := by
  obtain ⟨oc, od, kV, doc, pm, an, cdv, ct, osl, rfl, lk, hcd⟩ := F.ex
  constructor
  · exact size
  intro A outer s H args us vs Q E hg hr e0 hb r hsp
  have hlen := size _ _ _ _ hsp
  have inn : ∀ b o, base.get? b = some o → s.heap.get? b = some o := fun b o e => (e0.bs b o e).1
  have KX : K.In s.heap := e0.mod.kin.keeps inn
  have lim : s.heap.NoLimit := e0.mod.nolimit.keeps inn
  have cellOr : ∀ y ∈ ps.zip us, (defScope st).names.lookup y.1 = some .local ∨ ((defScope st).names.lookup y.1 = some .cell ∧
      ((cellsFrom (s.heap.objs.size + 1) (defScope st).names []).lookup y.1).isSome = true) := by
    rintro ⟨n, v⟩ hy
    have hn := (List.of_mem_zip hy).1
    cases S.par n hn with
    | inl q => exact Or.inl q
    | inr q => exact Or.inr (And.intro q (PySem.W.cellsFrom_some _ _ _ (Or.inl q)))
  refine codeAny_call_function hr.depth (KX _ _ lk) rfl S.co S.gen rfl (PySem.W.codeRec_of KX hcd) (hb _ _ _ _ ?_)
  refine wpAny_newFunctionEnv_cells S.kind cellOr fun env he s1 x => ?_
  cases he
  refine And.intro (lim.keeps x.toInCall.keep) (codeAny_func ?_)
  obtain ⟨t, ht, hq⟩ := body cdv A outer s H vs Q E hg (hr.deeper _) hsp
  have I := inv_start (CX := CX0) (E := E) S hr.hd e0 hlen r x
  refine wpAny_mono (ht.nox.run [] s1 (start N vs) H _ I hq) (fun fl s' hs => ?_) fun e s' hs => hs
  cases fl with
  | ret u =>
    obtain ⟨v, σ', H', J, rv, q⟩ := hs
    exact ⟨v, H', J.os, J.bare, J.base, J.hok, rv, q⟩
  | next =>
    obtain ⟨σ', H', J, q⟩ := hs
    exact ⟨V.non, H', J.os, J.bare, J.base, J.hok, rfl, q⟩
  | brk =>
    obtain ⟨_, _, _, q⟩ := hs
    exact q.elim
  | cont =>
    obtain ⟨_, _, _, q⟩ := hs
    exact q.elim
end
section
variable {X : Cx} {CX : CXT} {k : Nat} {f : Addr} {fd : FuncData} {ps : List Str} {sp : Sp} {dvs : List V}
  {ds : List Value} {E : XK} {x : Str} {p pos : Pos} {e : Expr} {es : List Expr} {t : TA}
theorem pe_callG (F : GnOk X.prog X.w X.K X.mg X.base CX k f fd ps sp) (hG : X.A.guards = some []) (hr : Room k X.A)
    (hg : Gl X x) (hm : X.mg x = some (.ref f)) (hk : PySem.W.keepIn X.K (.ref f) = true)
    (hb : Binds X.K fd ps ds) (hd : Vals dvs ds) (hx : Passes CX X E) (ha : PA X (e :: es) t)
    (hdb : (x == ("__debug__" : Str)) = false := by decide)
    (he : starEach (e :: es) X.env = (false, eval e X.env) :: starEach es X.env := by rfl)
    (hpl : (backTo pos (starEach es X.env)).any (·.1) = false := by rfl) :
    PE X (.Call (.Name x p) (e :: es) [] pos) (tCall sp dvs E t) := by
  constructor
  intro pins s σ H Q I h
  refine wpAny_Call_Name_kw (ld_glob I hg hm ?_ hdb)
  refine PySem.W.callWith_K (h₀ := X.base) I.ok.mod.kin hk ?_ he hpl
  refine thn (ha.run pos pins s σ H _ I h) ?_
  rintro us s1 ⟨vs, H1, I1, r, q⟩
  refine And.intro I1.kIn ?_
  have r2 : Vals (vs ++ dvs) (us ++ ds) := r.append hd
  have hl : (us ++ ds).length = ps.length := r2.length.symm.trans (F.size _ _ _ _ q)
  refine wpAny_call (codeAny_mono (F.does X.A X.stack s1 H1 ⟨us, []⟩ (us ++ ds) (vs ++ dvs) Q E hG hr I1.env0 (hb s1 us I1.kIn hl) r2 q) ?_)
  intro r' s' hq
  match r', hq with
  | .error e', hq => exact hx pins σ H1 s1 e' s' I1 hq
  | .ok (.ret u), hq => exact I1.after hq
  | .ok .next, hq => exact hq.elim
  | .ok .brk, hq => exact hq.elim
  | .ok .cont, hq => exact hq.elim
/-- repr of an int, a text, a list or tuple of such, where no repr is under way -/
theorem call_reprD (hG : X.A.guards = some []) (hu : X.A.units + 200 < cLine) :
    CallR X (.builtin "repr") (fun xs H Q => ∃ (a : Addr) (d : PyData), xs = [.ref a] ∧ Dp X.K H (.ref a) d ∧
      d.showable = true ∧ d.hasDict = false ∧ d.depth ≤ 100 ∧ d.shown.length ≤ sizeLine ∧ Q (.str d.shown) H) := by
  intro pins s σ H xs us Q I r h
  obtain ⟨a, d, rfl, hd, hs, hn, hdp, hz, q⟩ := h
  cases r with
  | cons r1 r2 =>
    cases r2
    obtain ⟨as, hr⟩ := Dp.reads I d (.ref a) _ hd r1
    cases r1
    refine repr_of_reads' hr hs (fun z => absurd z (by rw [hn]; decide)) hG (by omega) (fun _ _ z => z) ?_ hz
    intro h' u tk hk
    exact ⟨.str d.shown, H, I.kept hk, ⟨u, rfl⟩, q⟩
end
end HA

/-! Heaps in which all but some lists stay; data of tuples; words for readings. -/
namespace HA
open PySem PySem.Spec PyProof.Rows L2
/-- all that was tracked stays, but at the addresses S -/
def Kp (S : List Addr) (H H' : Hp) : Prop := ∀ b o, b ∉ S → H b = some o → H' b = some o
section
variable {S S' : List Addr} {H H1 H2 : Hp}
theorem Kp.refl (H : Hp) : Kp S H H := fun _ _ _ h => h
theorem Kp.trans (a : Kp S H H1) (b : Kp S H1 H2) : Kp S H H2 := fun c o n h => b c o n (a c o n h)
theorem Kp.mono (a : Kp S H H1) (s : ∀ x ∈ S, x ∈ S') : Kp S' H H1 := fun c o n h => a c o (fun z => n (s c z)) h
theorem Kp.of (a : Same H H1) : Kp S H H1 := fun c o _ h => a c o h
theorem Kp.same (a : Kp [] H H1) : Same H H1 := fun c o h => a c o (by simp) h
theorem Kp.new {p : Addr} {o : HO} (h : H p = none) : Kp S H (upd H p o) := fun b u _ e => by
  rw [upd_ne (ne_of_none e h)]; exact e
theorem _root_.L2.Same.new {p : Addr} {o : HO} (h : H p = none) : Same H (upd H p o) := fun b u e => by
  rw [upd_ne (ne_of_none e h)]; exact e
theorem Kp.wr {p : Addr} {o : HO} (h : p ∈ S) : Kp S H (upd H p o) := fun b u n e => by
  rw [upd_ne (fun z : b = p => n (by rw [z]; exact h))]; exact e
/-- a new object may change -/
theorem Kp.mut {p : Addr} {o : HO} (e : Kp S H H1) (h : H p = none) : Kp S H (upd H1 p o) := fun b u n q => by
  rw [upd_ne (ne_of_none q h)]; exact e b u n q
theorem _root_.L2.Same.mut {p : Addr} {o : HO} (e : Same H H1) (h : H p = none) : Same H (upd H1 p o) := fun b u q => by
  rw [upd_ne (ne_of_none q h)]; exact e b u q
theorem Kp.free (e : Kp S H H1) {l : Addr} (n : l ∉ S) (h : H1 l = none) : H l = none := by
  cases q : H l with
  | none => rfl
  | some o => rw [e l o n q] at h; cases h
theorem Kp.mem (e : Kp S H H1) (hs : ∀ b ∈ S, ∃ o, H b = some o ∧ ∃ o', H1 b = some o') {l : Addr} (h : H1 l = none) : H l = none := by
  by_cases n : l ∈ S
  · obtain ⟨_, _, o', h'⟩ := hs l n
    rw [h'] at h; cases h
  · exact e.free n h
/-- what stands at the addresses S are lists -/
def Lsts (S : List Addr) (H : Hp) : Prop := ∀ b ∈ S, ∀ o, H b = some o → ∃ xs, o = .lst xs
theorem Lsts.nil : Lsts [] H := fun b h => by cases h
theorem Lsts.cons {p : Addr} {xs : List V} (h : H p = some (.lst xs)) (r : Lsts S H) : Lsts (p :: S) H := fun b m o e => by
  cases m with
  | head => rw [h] at e; cases e; exact ⟨xs, rfl⟩
  | tail _ m => exact r b m o e
theorem Lsts.free {p : Addr} (h : H p = none) (r : Lsts S H) : Lsts (p :: S) H := fun b m o e => by
  cases m with
  | head => rw [h] at e; cases e
  | tail _ m => exact r b m o e
theorem Lsts.one {p : Addr} {xs : List V} (h : H p = some (.lst xs)) : Lsts [p] H := Lsts.cons h Lsts.nil
theorem _root_.L2.Same.kps (a : Same H H1) (k : Kp S H1 H2) (n : ∀ x ∈ S, H x = none) : Same H H2 := fun b o e =>
  k b o (fun m => by rw [n b m] at e; cases e) (a b o e)
theorem Kp.seqT {K : PySem.W.Frag} {a : Addr} {xs : List V} (e : Kp S H H1) (l : Lsts S H) (h : SqT K H a xs) : SqT K H1 a xs := by
  rcases h with (h | ⟨o, h⟩) | h
  · refine .inl (.inl (e a _ (fun m => ?_) h))
    obtain ⟨ys, hy⟩ := l a m _ h
    cases hy
  · refine .inl (.inr ⟨o, e a _ (fun m => ?_) h⟩)
    obtain ⟨ys, hy⟩ := l a m _ h
    cases hy
  · exact .inr h
theorem Kp.seqL {K : PySem.W.Frag} {a : Addr} {xs : List V} (e : Kp S H H1) (n : a ∉ S) (h : SqL K H a xs) : SqL K H1 a xs := by
  rcases h with (h | ⟨o, h⟩) | h
  · exact .inl (.inl (e a _ n h))
  · exact .inl (.inr ⟨o, e a _ n h⟩)
  · exact .inr h
end
theorem _root_.L2.Same.seqT {K : PySem.W.Frag} {H H' : Hp} {a : Addr} {xs : List V} (e : Same H H') (h : SqT K H a xs) : SqT K H' a xs :=
  (Kp.of (S := []) e).seqT Lsts.nil h
/-! data without lists -/
mutual
def tu : PyData → Bool
  | .none | .bool _ | .int _ | .str _ => true
  | .tuple xs => tuAll xs
  | .list _ | .dict _ => false
def tuAll : List PyData → Bool
  | [] => true
  | x :: xs => tu x && tuAll xs
end
end HA
namespace L2
open PySem PySem.Spec PyProof.Rows HA
section
variable {K : PySem.W.Frag} {S : List Addr} {H H1 : Hp}
mutual
theorem Dp.kp (e : Kp S H H1) (l : Lsts S H) : ∀ (d : PyData) (v : V), tu d = true → Dp K H v d → Dp K H1 v d
  | .none, _, _, h => by cases h; exact .non
  | .bool b, _, _, h => by cases h; exact .bl b
  | .int i, _, _, h => by cases h; exact .int i
  | .str x, _, _, h => by cases h; exact .str x
  | .tuple ds, _, t, h => by
    cases h with
    | tup hs ha => exact .tup (e.seqT l hs) (Dp.kpAll e l ds _ t ha)
  | .list _, _, t, _ => by cases t
  | .dict _, _, _, h => by cases h
theorem Dp.kpAll (e : Kp S H H1) (l : Lsts S H) : ∀ (ds : List PyData) (vs : List V), tuAll ds = true → DpAll K H vs ds → DpAll K H1 vs ds
  | [], _, _, h => by cases h; exact .nil
  | d :: ds, _, t, h => by
    have t' : (tu d && tuAll ds) = true := t
    rw [Bool.and_eq_true] at t'
    cases h with
    | cons h1 h2 => exact .cons (Dp.kp e l d _ t'.1 h1) (Dp.kpAll e l ds _ t'.2 h2)
end
mutual
theorem Dp.sm (e : Same H H1) : ∀ (d : PyData) (v : V), Dp K H v d → Dp K H1 v d
  | .none, _, h => by cases h; exact .non
  | .bool b, _, h => by cases h; exact .bl b
  | .int i, _, h => by cases h; exact .int i
  | .str x, _, h => by cases h; exact .str x
  | .tuple ds, _, h => by
    cases h with
    | tup hs ha => exact .tup (Same.seqT e hs) (Dp.smAll e ds _ ha)
  | .list ds, _, h => by
    cases h with
    | lst hs ha => exact .lst (Same.seq e hs) (Dp.smAll e ds _ ha)
  | .dict _, _, h => by cases h
theorem Dp.smAll (e : Same H H1) : ∀ (ds : List PyData) (vs : List V), DpAll K H vs ds → DpAll K H1 vs ds
  | [], _, h => by cases h; exact .nil
  | d :: ds, _, h => by
    cases h with
    | cons h1 h2 => exact .cons (Dp.sm e d _ h1) (Dp.smAll e ds _ h2)
end
theorem DpAll.len : ∀ {vs : List V} {ds : List PyData}, DpAll K H vs ds → vs.length = ds.length
  | _, _, .nil => rfl
  | _, _, .cons _ h => by rw [List.length_cons, List.length_cons, DpAll.len h]
theorem DpAll.app : ∀ {vs ws : List V} {ds es : List PyData}, DpAll K H vs ds → DpAll K H ws es → DpAll K H (vs ++ ws) (ds ++ es)
  | _, _, _, _, .nil, h => h
  | _, _, _, _, .cons a b, h => .cons a (DpAll.app b h)
theorem DpAll.take : ∀ (n : Nat) {vs : List V} {ds : List PyData}, DpAll K H vs ds → DpAll K H (vs.take n) (ds.take n)
  | 0, _, _, _ => .nil
  | _ + 1, _, _, .nil => .nil
  | n + 1, _, _, .cons a b => .cons a (DpAll.take n b)
theorem DpAll.drop : ∀ (n : Nat) {vs : List V} {ds : List PyData}, DpAll K H vs ds → DpAll K H (vs.drop n) (ds.drop n)
  | 0, _, _, h => h
  | _ + 1, _, _, .nil => .nil
  | n + 1, _, _, .cons _ b => DpAll.drop n b
theorem DpAll.at : ∀ {i : Nat} {vs : List V} {ds : List PyData} {d : PyData}, DpAll K H vs ds → ds[i]? = some d → ∃ v, vs[i]? = some v ∧ Dp K H v d
  | _, _, _, _, .nil, e => by cases e
  | 0, _, _, _, .cons a _, e => by cases e; exact ⟨_, rfl, a⟩
  | i + 1, _, _, _, .cons _ b, e => DpAll.at (i := i) b e
theorem DpAll.atV : ∀ {i : Nat} {vs : List V} {ds : List PyData} {v : V}, DpAll K H vs ds → vs[i]? = some v → ∃ d, ds[i]? = some d ∧ Dp K H v d
  | _, _, _, _, .nil, e => by cases e
  | 0, _, _, _, .cons a _, e => by cases e; exact ⟨_, rfl, a⟩
  | i + 1, _, _, _, .cons _ b, e => DpAll.atV (i := i) b e
theorem Dp.str_inv {v : V} {x : Str} (h : Dp K H v (.str x)) : v = .str x := by cases h; rfl
theorem Dp.int_inv {v : V} {i : Int} (h : Dp K H v (.int i)) : v = .int i := by cases h; rfl
theorem Dp.tup_inv {v : V} {ds : List PyData} (h : Dp K H v (.tuple ds)) : ∃ a xs, v = .ref a ∧ SqT K H a xs ∧ DpAll K H xs ds := by
  cases h with
  | tup hs ha => exact ⟨_, _, rfl, hs, ha⟩
end
end L2
namespace HA
open PySem PySem.Spec PyProof.Rows L2
/-- a reference: a level or a name -/
def kD : Key → PyData
  | .inl i => .int i
  | .inr x => .str x
theorem _root_.L2.Dp.key {K : PySem.W.Frag} {H : Hp} (r : Key) : Dp K H (kV r) (kD r) := by
  cases r with
  | inl i => exact .int i
  | inr x => exact .str x
theorem _root_.L2.Dp.key_inv {K : PySem.W.Frag} {H : Hp} {v : V} {r : Key} (h : Dp K H v (kD r)) : v = kV r := by
  cases r with
  | inl i => cases h; rfl
  | inr x => cases h; rfl
theorem tu_key (r : Key) : tu (kD r) = true := by cases r <;> rfl
theorem flat_key (r : Key) : flatV (kV r) = true := by cases r <;> rfl
theorem flat_keys (l : List Key) : (l.map kV).all flatV = true := by
  rw [List.all_eq_true]
  intro x h
  obtain ⟨r, _, rfl⟩ := List.mem_map.mp h
  exact flat_key r
theorem eqV_key (r q : Key) : eqV (kV r) (kV q) = decide (r = q) := by
  cases r with
  | inl i =>
    cases q with
    | inl j =>
      show (i == j) = _
      rw [key_ll]
    | inr y =>
      show false = _
      rw [key_lr]
  | inr x =>
    cases q with
    | inl j =>
      show false = _
      rw [key_rl]
    | inr y =>
      show (x == y) = _
      rw [key_rr]
      by_cases h : x = y
      · subst h; simp
      · rw [decide_eq_false h]; exact beq_eq_false_iff_ne.mpr h
instance : DecidableEq Key := fun a b => inferInstance
instance : BEq Key := instBEqOfDecidableEq
theorem inV_key (r : Key) (l : List Key) : inV (kV r) (l.map kV) = decide (r ∈ l) := by
  unfold inV
  induction l with
  | nil => rfl
  | cons q l ih =>
    rw [List.map_cons, List.any_cons, ih, eqV_key]
    by_cases h : q = r
    · subst h; simp
    · have h' : ¬ r = q := fun z => h z.symm
      simp [h, h']
theorem kV_inj {r q : Key} (h : kV r = kV q) : r = q := by
  cases r <;> cases q <;> first | cases h; rfl | cases h
/-! types -/
theorem ty_tup {K : PySem.W.Frag} {H : Hp} {a : Addr} {xs : List V} (h : SqT K H a xs) : TyX K H (.ref a) (.type "tuple") := by
  rcases h with (h | ⟨o, h⟩) | ⟨o, its, n, h, c, _⟩
  · exact .base (.tup h)
  · exact .fTuple h
  · exact .kTuple h c
theorem ty_lst {K : PySem.W.Frag} {H : Hp} {a : Addr} {xs : List V} (h : SqL K H a xs) : TyX K H (.ref a) (.type "list") := by
  rcases h with (h | ⟨o, h⟩) | ⟨o, its, n, h, c, _⟩
  · exact .base (.lst h)
  · exact .base (.frz h)
  · exact .kList h c
theorem ty_int {K : PySem.W.Frag} {H : Hp} (i : Int) : TyX K H (.int i) (.type "int") := .base (.int i)
theorem ty_str {K : PySem.W.Frag} {H : Hp} (x : Str) : TyX K H (.str x) (.type "str") := .base (.str x)
theorem kit_tt {K : PySem.W.Frag} : PySem.W.kitOne K (.type "tuple") (.type "tuple") = some true := kit_ty (by decide +kernel)
theorem kit_it {K : PySem.W.Frag} : PySem.W.kitOne K (.type "int") (.type "tuple") = some false := kit_ty (by decide +kernel)
theorem kit_st {K : PySem.W.Frag} : PySem.W.kitOne K (.type "str") (.type "tuple") = some false := kit_ty (by decide +kernel)
theorem kit_ii {K : PySem.W.Frag} : PySem.W.kitOne K (.type "int") (.type "int") = some true := kit_ty (by decide +kernel)
theorem kit_si {K : PySem.W.Frag} : PySem.W.kitOne K (.type "str") (.type "int") = some false := kit_ty (by decide +kernel)
theorem kit_is {K : PySem.W.Frag} : PySem.W.kitOne K (.type "int") (.type "str") = some false := kit_ty (by decide +kernel)
theorem kit_ss {K : PySem.W.Frag} : PySem.W.kitOne K (.type "str") (.type "str") = some true := kit_ty (by decide +kernel)
theorem kit_ll {K : PySem.W.Frag} : PySem.W.kitOne K (.type "list") (.type "list") = some true := kit_ty (by decide +kernel)
/-- isinstance(ref, int), isinstance(ref, str) of a reference -/
def isI : Key → Bool
  | .inl _ => true
  | .inr _ => false
theorem ty_key {K : PySem.W.Frag} {H : Hp} (r : Key) : ∃ t, TyX K H (kV r) t ∧ PySem.W.kitOne K t (.type "int") = some (isI r) ∧ PySem.W.kitOne K t (.type "str") = some (!isI r) := by
  cases r with
  | inl i => exact ⟨_, ty_int i, kit_ii, kit_is⟩
  | inr x => exact ⟨_, ty_str x, kit_si, kit_ss⟩
/-! the pool of numbers -/
def Pool (H : Hp) (l : Addr) : Prop := ∃ a b c : Int, H l = some (.lst [.int a, .int b, .int c]) ∧ 0 ≤ a ∧ 0 ≤ b ∧ 0 ≤ c
theorem Pool.lsts {H : Hp} {l : Addr} (p : Pool H l) : Lsts [l] H := by
  obtain ⟨a, b, c, h, _⟩ := p
  exact Lsts.one h
theorem Pool.kp {S : List Addr} {H H' : Hp} {l : Addr} (p : Pool H l) (n : l ∉ S) (e : Kp S H H') : Pool H' l := by
  obtain ⟨a, b, c, h, r⟩ := p
  exact ⟨a, b, c, e l _ n h, r⟩
/-! cuts of tuples -/
theorem cut_from (xs : List V) (k : Nat) : cutV xs (some (k : Int)) none = xs.drop k := by
  unfold cutV
  rw [HT.sIx_nat, HT.sIx_none]
  by_cases h : k ≤ xs.length
  · rw [Nat.min_eq_left h, List.take_of_length_le (by rw [List.length_drop] <;> omega)]
  · rw [Nat.min_eq_right (by omega), List.drop_eq_nil_of_le (Nat.le_refl _), List.drop_eq_nil_of_le (by omega), List.take_nil]
theorem cut_to (xs : List V) (k : Nat) (h : k ≤ xs.length) : cutV xs none (some (k : Int)) = xs.take k := by
  unfold cutV
  rw [HT.sIx_nat, HT.sIx_none, Nat.min_eq_left h, List.drop_zero, Nat.sub_zero]
theorem atI_at {α : Type} {xs : List α} {z : Int} {j : Nat} {v : α} (e : z = (j : Int)) (h : xs[j]? = some v) : atI xs z = some v := by
  rw [e]; exact atI_nat h
end HA

/-! Rules whose readings speak of some later heap in which all that stood stands. -/
namespace HA
open PySem PySem.Spec PyProof.Rows L2
section
variable {X : Cx}
theorem op_imp {f : Value → Value → Sem Value} {r r' : R2} (h : OpR X f r) (i : ∀ x y H Q, r' x y H Q → r x y H Q) : OpR X f r' :=
  fun pins s σ H x y v u Q I rx ry q => h pins s σ H x y v u Q I rx ry (i x y H Q q)
theorem cr_imp {f : Value} {r r' : List V → Hp → VK → Prop} (h : CallR X f r) (i : ∀ xs H Q, r' xs H Q → r xs H Q) : CallR X f r' :=
  fun pins s σ H xs us Q I rx q => h pins s σ H xs us Q I rx (i xs H Q q)
theorem sl_imp {r r' : V → Option Int → Option Int → Hp → VK → Prop} (h : SlR X r) (i : ∀ x lo hi H Q, r' x lo hi H Q → r x lo hi H Q) : SlR X r' :=
  fun pins s σ H x v vl vu lo hi sl Q I rx hs pl pu q => h pins s σ H x v vl vu lo hi sl Q I rx hs pl pu (i x lo hi H Q q)
/-- a cut of a tuple -/
def rSlN (K : PySem.W.Frag) : V → Option Int → Option Int → Hp → VK → Prop := fun x lo hi H Q =>
  ∃ a xs, x = .ref a ∧ SqT K H a xs ∧ ∀ H' b, Same H H' → SqT K H' b (cutV xs lo hi) → Q (.ref b) H'
theorem cut_whole {xs : List V} {lo hi : Option Int} (h : HT.sIx xs.length 0 lo = 0 ∧ HT.sIx xs.length xs.length hi = xs.length) : cutV xs lo hi = xs := by
  unfold cutV
  rw [h.1, h.2, List.drop_zero, Nat.sub_zero, List.take_length]
theorem sl_tupN : SlR X (rSlN X.K) := sl_imp sl_tupA fun x lo hi H Q ⟨a, xs, e, h, q⟩ =>
  ⟨a, xs, e, h, fun w => q H a (Same.refl H) (by rw [cut_whole w]; exact h), fun _ p hp => q _ p (Same.new hp) (SqT.of upd_same)⟩
/-- a cut of a list: a new list -/
def rSlL (K : PySem.W.Frag) : V → Option Int → Option Int → Hp → VK → Prop := fun x lo hi H Q =>
  ∃ a xs, x = .ref a ∧ SqL K H a xs ∧ ∀ H' b, Same H H' → H b = none → H' b = some (.lst (cutV xs lo hi)) → Q (.ref b) H'
theorem sl_listN : SlR X (rSlL X.K) := sl_imp sl_list fun x lo hi H Q ⟨a, xs, e, h, q⟩ =>
  ⟨a, xs, e, h, fun p hp => q _ p (Same.new hp) hp upd_same⟩
/-- two tuples, one behind the other -/
def rCatN (K : PySem.W.Frag) : R2 := fun x y H Q => ∃ a b xs ys, x = .ref a ∧ y = .ref b ∧ SqT K H a xs ∧ SqT K H b ys ∧
  xs.length + ys.length ≤ sizeLine ∧ ∀ H' c, Same H H' → SqT K H' c (xs ++ ys) → Q (.ref c) H'
theorem op_catN : OpR X (binaryOp .Add) (rCatN X.K) := op_imp op_catA fun x y H Q ⟨a, b, xs, ys, ex, ey, hx, hy, z, q⟩ =>
  ⟨a, b, xs, ys, ex, ey, hx, hy, z, fun e => q H b (Same.refl H) (by rw [e]; exact hy),
    fun _ e => q H a (Same.refl H) (by rw [e, List.append_nil]; exact hx), fun _ _ p hp => q _ p (Same.new hp) (SqT.of upd_same)⟩
/-- two lists -/
def rCatL : R2 := fun x y H Q => ∃ l b xs zs, x = .ref l ∧ y = .ref b ∧ H l = some (.lst xs) ∧ H b = some (.lst zs) ∧
  xs.length + zs.length ≤ sizeLine ∧ ∀ H' p, Same H H' → H p = none → H' p = some (.lst (xs ++ zs)) → Q (.ref p) H'
theorem op_catL : OpR X (binaryOp .Add) rCatL := op_imp op_cat fun x y H Q ⟨a, b, xs, ys, ex, ey, hx, hy, z, q⟩ =>
  ⟨a, b, xs, ys, ex, ey, hx, hy, z, fun p hp => q _ p (Same.new hp) hp upd_same⟩
/-- list(..), tuple(..) -/
def rListN (K : PySem.W.Frag) : List V → Hp → VK → Prop := fun xs H Q => ∃ p ys, xs = [.ref p] ∧ (SqL K H p ys ∨ SqT K H p ys) ∧
  ∀ H' l, Same H H' → H l = none → H' l = some (.lst ys) → Q (.ref l) H'
theorem call_listN : CallR X (.type "list") (rListN X.K) := cr_imp call_list_of fun xs H Q ⟨p, ys, e, h, q⟩ =>
  ⟨p, ys, e, h, fun l hl => q _ l (Same.new hl) hl upd_same⟩
def rTupleN (K : PySem.W.Frag) : List V → Hp → VK → Prop := fun xs H Q => ∃ p ys, xs = [.ref p] ∧ (SqL K H p ys ∨ SqT K H p ys) ∧
  ∀ H' l, Same H H' → SqT K H' l ys → Q (.ref l) H'
theorem call_tupleN : CallR X (.type "tuple") (rTupleN X.K) := cr_imp call_tuple_of fun xs H Q ⟨p, ys, e, h, q⟩ =>
  ⟨p, ys, e, h.elim (fun h => .inl ⟨h, fun l hl => q _ l (Same.new hl) (SqT.of upd_same)⟩) fun h => .inr ⟨h, q H p (Same.refl H) h⟩⟩
/-- dict(d) -/
def rDictN : List V → Hp → VK → Prop := fun xs H Q => ∃ (a : Addr) (kvs : List (Key × V)), xs = [.ref a] ∧ Rd H a (.dK kvs) ∧
  ∀ H' p, Same H H' → H p = none → H' p = some (.dK kvs) → Q (.ref p) H'
theorem call_dictN : CallR X (.type "dict") rDictN := cr_imp call_dictD fun xs H Q ⟨a, kvs, e, h, q⟩ =>
  ⟨a, kvs, e, h, fun p hp => q _ p (Same.new hp) hp upd_same⟩
section
variable {es : List Expr} {t : TA} {pos : Pos}
/-- (a, b, ..) and [a, b, ..] -/
def tTupN (t : TA) : TE := fun σ H Q => t σ H fun xs H1 => xs.length ≤ 1000 ∧ ∀ H' p, Same H1 H' → H1 p = none → H' p = some (.tup xs) → Q (.ref p) H'
def tLstN (t : TA) : TE := fun σ H Q => t σ H fun xs H1 => xs.length ≤ 1000 ∧ ∀ H' p, Same H1 H' → H1 p = none → H' p = some (.lst xs) → Q (.ref p) H'
theorem pe_tupN {x1} (h : PA X es t) : PE X (.Tuple es x1 pos) (tTupN t) := by
  constructor
  intro pins s σ H Q I hq
  refine wpAny_Tuple_spliced (thn (h.run pos pins s σ H _ I hq) ?_)
  rintro us s1 ⟨xs, H1, I1, r, z, q⟩
  have z' : xs.length ≤ sizeLine := Nat.le_of_lt (small1000 z)
  have hf : H1 s1.heap.objs.size = none := I1.hok.fresh (Nat.le_refl _)
  refine ⟨by rw [← r.length]; exact z', .ref s1.heap.objs.size, upd H1 s1.heap.objs.size (.tup xs), I1.laid (t' := s1.toks) (fun b u e => Heap.get?_push_of_some _ e) (Nat.le_refl _) ?_, rfl, q _ _ (Same.new hf) hf upd_same⟩
  exact ⟨z', us, r, ⟨_, Heap.get?_push_size _ rfl, rfl, _, rfl⟩⟩
theorem pe_lstN (h : PA X es t) : PE X (.List es pos) (tLstN t) := by
  constructor
  intro pins s σ H Q I hq
  refine wpAny_List_spliced (thn (h.run pos pins s σ H _ I hq) ?_)
  rintro us s1 ⟨xs, H1, I1, r, z, q⟩
  have z' : xs.length ≤ sizeLine := Nat.le_of_lt (small1000 z)
  have hf : H1 s1.heap.objs.size = none := I1.hok.fresh (Nat.le_refl _)
  refine ⟨by rw [← r.length]; exact z', .ref s1.heap.objs.size, upd H1 s1.heap.objs.size (.lst xs), I1.laid (t' := s1.toks) (fun b u e => Heap.get?_push_of_some _ e) (Nat.le_refl _) ?_, rfl, q _ _ (Same.new hf) hf upd_same⟩
  exact ⟨z', us, 0, r, Heap.get?_push_size _ rfl⟩
/-- {} -/
def tDictN : TE := fun _ H Q => ∀ H' p, Same H H' → H p = none → H' p = some (.dK []) → Q (.ref p) H'
theorem pe_dictN : PE X (.Dict [] [] pos) tDictN := by
  constructor
  intro pins s σ H Q I hq
  exact (pe_dnewK (X := X) (pos := pos)).run pins s σ H Q I fun p hp => hq _ p (Same.new hp) hp upd_same
end
end
/-- a text's length line -/
theorem sz_le {n : Nat} (h : n ≤ 100000) : n ≤ sizeLine := Nat.le_trans h (by decide)
theorem sz_lt {n : Nat} (h : n ≤ 100000) : n < sizeLine := Nat.lt_of_le_of_lt h (by decide)
end HA

/-! Derivations as data, moved, their references. -/
namespace HA
open PySem PySem.Spec PyProof.Rows L2
inductive Kd where
  | once
  | st (n k : Int)
def Kd.d : Kd → PyData
  | .once => .str "once"
  | .st n k => .tuple [.int n, .int k]
inductive Sn where
  | word (x : Str)
  | menu (a b : Sn)
  | trade (k : Kd) (a b : Sn)
def Sn.d : Sn → PyData
  | .word x => .tuple [.str "word", .str x]
  | .menu a b => .tuple [.str "menu", a.d, b.d]
  | .trade k a b => .tuple [.str "trade", k.d, a.d, b.d]
inductive Row where
  | own (r : Key)
  | cite (x : Str)
  | take (b : Row)
  | pick (r : Key) (s : Str) (b : Row)
  | make (x : Str) (i : Int) (b : Row)
  | opn (r : Key) (x : Str) (i : Int) (b : Row)
  | offer (a b : Row)
  | pay (r : Key) (k : Kd) (a b : Row)
  | cut (k : Kd) (s : Sn) (a b : Row)
namespace Row
def name : Row → Str
  | own _ => "own"
  | cite _ => "cite"
  | take _ => "take"
  | pick _ _ _ => "pick"
  | make _ _ _ => "make"
  | opn _ _ _ _ => "open"
  | offer _ _ => "offer"
  | pay _ _ _ _ => "pay"
  | cut _ _ _ _ => "cut"
def kids : Row → List Row
  | own _ => []
  | cite _ => []
  | take b => [b]
  | pick _ _ b => [b]
  | make _ _ b => [b]
  | opn _ _ _ b => [b]
  | offer a b => [a, b]
  | pay _ _ a b => [a, b]
  | cut _ _ a b => [a, b]
def mid : Row → List PyData
  | own r => [kD r]
  | cite x => [.str x]
  | take _ => []
  | pick r s _ => [kD r, .str s]
  | make x i _ => [.str x, .int i]
  | opn r x i _ => [kD r, .str x, .int i]
  | offer _ _ => []
  | pay r k _ _ => [kD r, k.d]
  | cut k s _ _ => [k.d, s.d]
def d : Row → PyData
  | own r => .tuple [.str "own", kD r]
  | cite x => .tuple [.str "cite", .str x]
  | take b => .tuple [.str "take", b.d]
  | pick r s b => .tuple [.str "pick", kD r, .str s, b.d]
  | make x i b => .tuple [.str "make", .str x, .int i, b.d]
  | opn r x i b => .tuple [.str "open", kD r, .str x, .int i, b.d]
  | offer a b => .tuple [.str "offer", a.d, b.d]
  | pay r k a b => .tuple [.str "pay", kD r, k.d, a.d, b.d]
  | cut k s a b => .tuple [.str "cut", k.d, s.d, a.d, b.d]
theorem d_eq (t : Row) : t.d = .tuple (.str t.name :: (t.mid ++ t.kids.map d)) := by cases t <;> rfl
def ref : Row → Option Key
  | own r => some r
  | pick r _ _ => some r
  | opn r _ _ _ => some r
  | pay r _ _ _ => some r
  | _ => none
/-- the height, the number of rows -/
def ht : Row → Nat
  | own _ => 1
  | cite _ => 1
  | take b => b.ht + 1
  | pick _ _ b => b.ht + 1
  | make _ _ b => b.ht + 1
  | opn _ _ _ b => b.ht + 1
  | offer a b => max a.ht b.ht + 1
  | pay _ _ a b => max a.ht b.ht + 1
  | cut _ _ a b => max a.ht b.ht + 1
def sz : Row → Nat
  | own _ => 1
  | cite _ => 1
  | take b => b.sz + 1
  | pick _ _ b => b.sz + 1
  | make _ _ b => b.sz + 1
  | opn _ _ _ b => b.sz + 1
  | offer a b => a.sz + b.sz + 1
  | pay _ _ a b => a.sz + b.sz + 1
  | cut _ _ a b => a.sz + b.sz + 1
theorem ht_kid {t c : Row} (h : c ∈ t.kids) : c.ht < t.ht := by
  cases t <;> simp only [kids, List.mem_cons, List.not_mem_nil, or_false] at h <;>
    first
    | exact h.elim
    | (subst h; simp only [ht]; omega)
    | (rcases h with rfl | rfl <;> simp only [ht] <;> omega)
theorem ht_pos (t : Row) : 0 < t.ht := by cases t <;> simp only [ht] <;> omega
theorem sz_kids (t : Row) : (t.kids.map sz).sum + 1 = t.sz := by cases t <;> simp [kids, sz] <;> omega
end Row
/-- a renaming as it stands in a dict -/
abbrev Ren := List (Key × Key)
def Ren.kv (ρ : Ren) : List (Key × V) := ρ.map fun p => (p.1, kV p.2)
def Ren.look (ρ : Ren) (r : Key) : Option Key := (ρ.find? fun p => decide (p.1 = r)).map (·.2)
def Ren.to (ρ : Ren) (r : Key) : Key := (ρ.look r).getD r
theorem Ren.valV (ρ : Ren) (r : Key) : L2.valV ρ.kv r = (ρ.look r).map kV := by
  unfold L2.valV Ren.look Ren.kv
  rw [List.find?_map]
  cases h : ρ.find? (fun p => decide (p.1 = r)) with
  | none =>
    have h' : List.find? ((fun kv : Key × V => decide (kv.1 = r)) ∘ fun p : Key × Key => (p.1, kV p.2)) ρ = none := h
    rw [h']; rfl
  | some p =>
    have h' : List.find? ((fun kv : Key × V => decide (kv.1 = r)) ∘ fun p : Key × Key => (p.1, kV p.2)) ρ = some p := h
    rw [h']; rfl
/-- a reference of a part that moves -/
def mvRef (old new : Int) (ρ : Ren) : Key → Key
  | .inl i => if i ≥ old then .inl (i + new - old) else ρ.to (.inl i)
  | .inr x => ρ.to (.inr x)
namespace Row
def mv (old new : Int) (ρ : Ren) : Row → Row
  | own r => own (mvRef old new ρ r)
  | cite x => cite x
  | take b => take (b.mv old new ρ)
  | pick r s b => pick (mvRef old new ρ r) s (b.mv old new ρ)
  | make x i b => make x i (b.mv old new ρ)
  | opn r x i b => opn (mvRef old new ρ r) x i (b.mv old new ρ)
  | offer a b => offer (a.mv old new ρ) (b.mv old new ρ)
  | pay r k a b => pay (mvRef old new ρ r) k (a.mv old new ρ) (b.mv old new ρ)
  | cut k s a b => cut k s (a.mv old new ρ) (b.mv old new ρ)
theorem mv_none {old new : Int} {ρ : Ren} {t : Row} (h : t.ref = none) :
    (t.mv old new ρ).d = .tuple (.str t.name :: (t.mid ++ (t.kids.map (mv old new ρ)).map d)) := by
  cases t <;> first | rfl | cases h
theorem mid_some {t : Row} {r : Key} (h : t.ref = some r) : ∃ m, t.mid = kD r :: m := by
  cases t <;> first | (cases h; exact ⟨_, rfl⟩) | cases h
theorem mv_some {old new : Int} {ρ : Ren} {t : Row} {r : Key} {m : List PyData} (h : t.ref = some r) (hm : t.mid = kD r :: m) :
    (t.mv old new ρ).d = .tuple (.str t.name :: kD (mvRef old new ρ r) :: (m ++ (t.kids.map (mv old new ρ)).map d)) := by
  cases t <;> first | (cases h; cases hm; rfl) | cases h
theorem mv_ht (old new : Int) (ρ : Ren) (t : Row) : (t.mv old new ρ).ht = t.ht := by
  induction t <;> simp only [mv, ht, *]
theorem mv_sz (old new : Int) (ρ : Ren) (t : Row) : (t.mv old new ρ).sz = t.sz := by
  induction t <;> simp only [mv, sz, *]
/-- the references in preorder -/
def refs : Row → List Key
  | own r => [r]
  | cite _ => []
  | take b => b.refs
  | pick r _ b => r :: b.refs
  | make _ _ b => b.refs
  | opn r _ _ b => r :: b.refs
  | offer a b => a.refs ++ b.refs
  | pay r _ a b => r :: (a.refs ++ b.refs)
  | cut _ _ a b => a.refs ++ b.refs
theorem refs_eq (t : Row) : t.refs = t.ref.toList ++ (t.kids.map refs).flatten := by
  cases t <;> simp [refs, ref, kids]
theorem refs_mv (old new : Int) (ρ : Ren) (t : Row) : (t.mv old new ρ).refs = t.refs.map (mvRef old new ρ) := by
  induction t <;> simp only [mv, refs, List.map_cons, List.map_append, List.map_nil, *]
theorem refs_len (t : Row) : t.refs.length ≤ t.sz := by
  induction t <;> simp only [refs, sz, List.length_cons, List.length_append, List.length_nil] <;> omega
/-- moved twice is moved once, if the references agree -/
theorem mv_mv {a b c : Int} {ρ τ υ : Ren} (t : Row) (h : ∀ r ∈ t.refs, mvRef b c τ (mvRef a b ρ r) = mvRef a c υ r) :
    (t.mv a b ρ).mv b c τ = t.mv a c υ := by
  induction t <;> simp only [refs, List.mem_cons, List.mem_append, List.not_mem_nil, or_false, forall_eq_or_imp, forall_eq, or_imp, forall_and] at h <;> simp_all [mv]
theorem mv_id {a b : Int} {ρ : Ren} (t : Row) (h : ∀ r ∈ t.refs, mvRef a b ρ r = r) : t.mv a b ρ = t := by
  induction t <;> simp only [refs, List.mem_cons, List.mem_append, List.not_mem_nil, or_false, forall_eq_or_imp, forall_eq, or_imp, forall_and] at h <;> simp_all [mv]
end Row
/-! lists without repetition, in the order of the first occurrence -/
def addTo (f : List Key) (xs : List Key) : List Key := xs.foldl (fun f x => if x ∈ f then f else f ++ [x]) f
theorem addTo_nil (f : List Key) : addTo f [] = f := rfl
theorem addTo_cons (f : List Key) (x : Key) (xs : List Key) : addTo f (x :: xs) = addTo (if x ∈ f then f else f ++ [x]) xs := rfl
theorem addTo_app (f xs ys : List Key) : addTo f (xs ++ ys) = addTo (addTo f xs) ys := List.foldl_append
theorem mem_addTo {y : Key} : ∀ {xs f : List Key}, y ∈ addTo f xs ↔ y ∈ f ∨ y ∈ xs
  | [], f => by simp [addTo_nil]
  | x :: xs, f => by
    rw [addTo_cons, mem_addTo]
    by_cases h : x ∈ f
    · rw [if_pos h]
      constructor
      · rintro (h1 | h1)
        · exact .inl h1
        · exact .inr (.tail _ h1)
      · rintro (h1 | h1)
        · exact .inl h1
        · rcases List.mem_cons.mp h1 with rfl | h1
          · exact .inl h
          · exact .inr h1
    · rw [if_neg h]
      simp only [List.mem_append, List.mem_cons, List.not_mem_nil, or_false]
      constructor
      · rintro ((h1 | h1) | h1)
        · exact .inl h1
        · exact .inr (.inl h1)
        · exact .inr (.inr h1)
      · rintro (h1 | h1 | h1)
        · exact .inl (.inl h1)
        · exact .inl (.inr h1)
        · exact .inr h1
theorem addTo_sub : ∀ {xs f : List Key}, (∀ x ∈ xs, x ∈ f) → addTo f xs = f
  | [], _, _ => rfl
  | x :: xs, f, h => by
    rw [addTo_cons, if_pos (h x (.head _))]
    exact addTo_sub fun y hy => h y (.tail _ hy)
/-- what is added may be made unique ahead -/
theorem addTo_uniq (g : List Key) : ∀ (xs f : List Key), (∀ x ∈ f, x ∈ g ∨ x ∈ f) → addTo g (addTo f xs) = addTo (addTo g f) xs
  | [], f, _ => rfl
  | x :: xs, f, h => by
    rw [addTo_cons, addTo_cons]
    by_cases hx : x ∈ f
    · rw [if_pos hx, if_pos (mem_addTo.mpr (.inr hx)), addTo_uniq g xs f h]
    · rw [if_neg hx, addTo_uniq g xs (f ++ [x]) (fun y hy => .inr hy), addTo_app]
      rfl
theorem addTo_one (g xs : List Key) : addTo g (addTo [] xs) = addTo g xs := by
  have := addTo_uniq g xs [] (fun x hx => .inr hx)
  rw [addTo_nil] at this
  exact this
theorem addTo_len : ∀ (xs f : List Key), (addTo f xs).length ≤ f.length + xs.length
  | [], f => by simp [addTo_nil]
  | x :: xs, f => by
    rw [addTo_cons]
    refine Nat.le_trans (addTo_len xs _) ?_
    split
    · rw [List.length_cons]; omega
    · rw [List.length_append, List.length_cons, List.length_cons, List.length_nil]; omega
/-- the images of different references, each once -/
theorem addTo_map (g : Key → Key) : ∀ (xs f : List Key), addTo [] ((addTo f xs).map g) = addTo (addTo [] (f.map g)) (xs.map g)
  | [], f => rfl
  | x :: xs, f => by
    rw [addTo_cons, addTo_map g xs, List.map_cons, addTo_cons]
    by_cases hx : x ∈ f
    · rw [if_pos hx, if_pos (mem_addTo.mpr (.inr (List.mem_map_of_mem hx)))]
    · rw [if_neg hx, List.map_append, addTo_app]
      rfl
/-- a name, or a level below -/
def isFree (level : Int) : Key → Bool
  | .inl i => decide (i < level)
  | .inr _ => true
def Row.free (t : Row) (level : Int) : List Key := addTo [] (t.refs.filter (isFree level))
theorem free_len (t : Row) (level : Int) : (t.free level).length ≤ t.sz := by
  refine Nat.le_trans (addTo_len _ _) ?_
  rw [List.length_nil, Nat.zero_add]
  exact Nat.le_trans (List.length_filter_le _ _) t.refs_len
end HA

/-! The text by places. -/
namespace HA
open PySem PySem.Spec PyProof.Rows L2
def topS (i : Nat) : Stmt := (PySem.Challenge.pw_heldanswers_k00_moves_in_two_hops).main.body.getD i (.Pass ⟨0, 0, 0, 0⟩)
abbrev s_premises : Stmt := topS 2
abbrev N_premises : List Str := ["derivation", "count"]
theorem sc_premises : FnScope N_premises ["derivation"] (defScope s_premises) := ⟨rfl, rfl, rfl, by decide +kernel, rfl, by decide +kernel, by decide +kernel⟩
abbrev s_rebuilt : Stmt := topS 3
abbrev N_rebuilt : List Str := ["derivation", "parts", "count"]
theorem sc_rebuilt : FnScope N_rebuilt ["derivation", "parts"] (defScope s_rebuilt) := ⟨rfl, rfl, rfl, by decide +kernel, rfl, by decide +kernel, by decide +kernel⟩
abbrev s_refers_to : Stmt := topS 4
abbrev N_refers_to : List Str := ["derivation"]
theorem sc_refers_to : FnScope N_refers_to ["derivation"] (defScope s_refers_to) := ⟨rfl, rfl, rfl, by decide +kernel, rfl, by decide +kernel, by decide +kernel⟩
abbrev s_moved_ref : Stmt := topS 6
abbrev N_moved_ref : List Str := ["ref", "old", "new", "renamed"]
theorem sc_moved_ref : FnScope N_moved_ref ["ref", "old", "new", "renamed"] (defScope s_moved_ref) := ⟨rfl, rfl, rfl, by decide +kernel, rfl, by decide +kernel, by decide +kernel⟩
abbrev s_moved : Stmt := topS 7
abbrev N_moved : List Str := ["derivation", "old", "new", "renamed", "parts", "result", "ref", "premise"]
theorem sc_moved : FnScope N_moved ["derivation", "old", "new", "renamed"] (defScope s_moved) := ⟨rfl, rfl, rfl, by decide +kernel, rfl, by decide +kernel, by decide +kernel⟩
abbrev s_free_refs : Stmt := topS 8
abbrev N_free_refs : List Str := ["derivation", "level", "found", "ref", "premise", "other"]
theorem sc_free_refs : FnScope N_free_refs ["derivation", "level"] (defScope s_free_refs) := ⟨rfl, rfl, rfl, by decide +kernel, rfl, by decide +kernel, by decide +kernel⟩
abbrev s__law_cell : Stmt := topS 10
abbrev N__law_cell : List Str := ["script", "k"]
theorem sc__law_cell : FnScope N__law_cell ["script", "k"] (defScope s__law_cell) := ⟨rfl, rfl, rfl, by decide +kernel, rfl, by decide +kernel, by decide +kernel⟩
abbrev s__law_pool : Stmt := topS 11
abbrev N__law_pool : List Str := ["script", "k", "cell"]
theorem sc__law_pool : FnScope N__law_pool ["script", "k"] (defScope s__law_pool) := ⟨rfl, rfl, rfl, by decide +kernel, rfl, by decide +kernel, by decide +kernel⟩
abbrev s__law_next : Stmt := topS 12
abbrev N__law_next : List Str := ["pool", "many", "digit", "mixed"]
theorem sc__law_next : FnScope N__law_next ["pool", "many"] (defScope s__law_next) := ⟨rfl, rfl, rfl, by decide +kernel, rfl, by decide +kernel, by decide +kernel⟩
abbrev s__law_new_name : Stmt := topS 13
abbrev N__law_new_name : List Str := ["pool", "taken", "signs", "pick", "old", "at", "name", "k"]
theorem sc__law_new_name : FnScope N__law_new_name ["pool", "taken"] (defScope s__law_new_name) := ⟨rfl, rfl, rfl, by decide +kernel, rfl, by decide +kernel, by decide +kernel⟩
abbrev s__law_row : Stmt := topS 14
abbrev N__law_row : List Str := ["item", "names"]
theorem sc__law_row : FnScope N__law_row ["item"] (defScope s__law_row) := ⟨rfl, rfl, rfl, by decide +kernel, rfl, by decide +kernel, by decide +kernel⟩
abbrev s__law_moved : Stmt := topS 15
abbrev N__law_moved : List Str := ["tree", "old", "new", "names", "out", "k", "item"]
theorem sc__law_moved : FnScope N__law_moved ["tree", "old", "new", "names"] (defScope s__law_moved) := ⟨rfl, rfl, rfl, by decide +kernel, rfl, by decide +kernel, by decide +kernel⟩
abbrev s__law_outside : Stmt := topS 16
abbrev N__law_outside : List Str := ["tree", "level", "found", "left", "row", "parts", "item"]
theorem sc__law_outside : FnScope N__law_outside ["tree", "level"] (defScope s__law_outside) := ⟨rfl, rfl, rfl, by decide +kernel, rfl, by decide +kernel, by decide +kernel⟩
abbrev s__law_word : Stmt := topS 17
abbrev N__law_word : List Str := ["state", "names"]
theorem sc__law_word : FnScope N__law_word ["state"] (defScope s__law_word) := ⟨rfl, rfl, rfl, by decide +kernel, rfl, by decide +kernel, by decide +kernel⟩
abbrev s__law_mode : Stmt := topS 18
abbrev N__law_mode : List Str := ["pool", "room", "most"]
theorem sc__law_mode : FnScope N__law_mode ["pool", "room"] (defScope s__law_mode) := ⟨rfl, rfl, rfl, by decide +kernel, rfl, by decide +kernel, by decide +kernel⟩
abbrev s__law_sentence : Stmt := topS 19
abbrev N__law_sentence : List Str := ["state", "depth", "pool", "pick", "one", "two"]
theorem sc__law_sentence : FnScope N__law_sentence ["state", "depth"] (defScope s__law_sentence) := ⟨rfl, rfl, rfl, by decide +kernel, rfl, by decide +kernel, by decide +kernel⟩
abbrev s__law_ref : Stmt := topS 20
abbrev N__law_ref : List Str := ["state", "level", "pool", "own", "outer"]
theorem sc__law_ref : FnScope N__law_ref ["state", "level"] (defScope s__law_ref) := ⟨rfl, rfl, rfl, by decide +kernel, rfl, by decide +kernel, by decide +kernel⟩
abbrev s__law_grow : Stmt := topS 21
abbrev N__law_grow : List Str := ["state", "level", "room", "many", "pool", "pick", "ref", "row", "first", "rest", "mode", "inner"]
theorem sc__law_grow : FnScope N__law_grow ["state", "level", "room", "many"] (defScope s__law_grow) := ⟨rfl, rfl, rfl, by decide +kernel, rfl, by decide +kernel, by decide +kernel⟩
abbrev s__law_target : Stmt := topS 22
abbrev N__law_target : List Str := ["pool", "names", "room"]
theorem sc__law_target : FnScope N__law_target ["pool", "names", "room"] (defScope s__law_target) := ⟨rfl, rfl, rfl, by decide +kernel, rfl, by decide +kernel, by decide +kernel⟩
abbrev s__law_renaming : Stmt := topS 23
abbrev N__law_renaming : List Str := ["pool", "refs", "names", "old", "new", "found", "ref", "k"]
theorem sc__law_renaming : FnScope N__law_renaming ["pool", "refs", "names", "old", "new"] (defScope s__law_renaming) := ⟨rfl, rfl, rfl, by decide +kernel, rfl, by decide +kernel, by decide +kernel⟩
abbrev s__law_once_each : Stmt := topS 24
abbrev N__law_once_each : List Str := ["refs", "images", "found", "ref", "image"]
theorem sc__law_once_each : FnScope N__law_once_each ["refs", "images"] (defScope s__law_once_each) := ⟨rfl, rfl, rfl, by decide +kernel, rfl, by decide +kernel, by decide +kernel⟩
abbrev s__law_is_tree : Stmt := topS 25
abbrev N__law_is_tree : List Str := ["told", "due"]
theorem sc__law_is_tree : FnScope N__law_is_tree ["told", "due"] (defScope s__law_is_tree) := ⟨rfl, rfl, rfl, by decide +kernel, rfl, by decide +kernel, by decide +kernel⟩
abbrev s__law_moves : Stmt := topS 26
abbrev N__law_moves : List Str := ["tree", "old", "new", "names", "due", "given", "told"]
theorem sc__law_moves : FnScope N__law_moves ["tree", "old", "new", "names", "due"] (defScope s__law_moves) := ⟨rfl, rfl, rfl, by decide +kernel, rfl, by decide +kernel, by decide +kernel⟩
abbrev s__law_lists : Stmt := topS 27
abbrev N__law_lists : List Str := ["tree", "level", "due", "k", "told"]
theorem sc__law_lists : FnScope N__law_lists ["tree", "level", "due"] (defScope s__law_lists) := ⟨rfl, rfl, rfl, by decide +kernel, rfl, by decide +kernel, by decide +kernel⟩
abbrev s__law_two_hops : Stmt := topS 28
abbrev N__law_two_hops : List Str := ["state", "tree", "pool", "levels", "a", "b", "c", "names", "one", "two", "both", "ref", "image", "first", "second", "refs"]
theorem sc__law_two_hops : FnScope N__law_two_hops ["state", "tree", "pool", "levels"] (defScope s__law_two_hops) := ⟨rfl, rfl, rfl, by decide +kernel, rfl, by decide +kernel, by decide +kernel⟩
abbrev s__law_back : Stmt := topS 29
abbrev N__law_back : List Str := ["state", "tree", "pool", "a", "b", "names", "outer", "taken", "free", "k", "there", "back", "ref", "image", "due"]
theorem sc__law_back : FnScope N__law_back ["state", "tree", "pool", "a", "b"] (defScope s__law_back) := ⟨rfl, rfl, rfl, by decide +kernel, rfl, by decide +kernel, by decide +kernel⟩
abbrev s_law : Stmt := topS 30
abbrev N_law : List Str := ["script", "pool", "names", "k", "a", "many", "state", "tree", "other", "levels"]
theorem sc_law : FnScope N_law ["script"] (defScope s_law) := ⟨rfl, rfl, rfl, by decide +kernel, rfl, by decide +kernel, by decide +kernel⟩
/-- the places of the defs, and the built-ins that stand -/
structure Tx (K : PySem.W.Frag) (w : World) (mg : Str → Option Value) where
  a_premises : Addr
  d_premises : FuncData
  F_premises : Fun K "premises" "premises" s_premises a_premises d_premises
  g_premises : mg "premises" = some (.ref a_premises)
  b_premises : Binds K d_premises ["derivation"] []
  a_rebuilt : Addr
  d_rebuilt : FuncData
  F_rebuilt : Fun K "rebuilt" "rebuilt" s_rebuilt a_rebuilt d_rebuilt
  g_rebuilt : mg "rebuilt" = some (.ref a_rebuilt)
  b_rebuilt : Binds K d_rebuilt ["derivation", "parts"] []
  a_refers_to : Addr
  d_refers_to : FuncData
  F_refers_to : Fun K "refers_to" "refers_to" s_refers_to a_refers_to d_refers_to
  g_refers_to : mg "refers_to" = some (.ref a_refers_to)
  b_refers_to : Binds K d_refers_to ["derivation"] []
  a_moved_ref : Addr
  d_moved_ref : FuncData
  F_moved_ref : Fun K "moved_ref" "moved_ref" s_moved_ref a_moved_ref d_moved_ref
  g_moved_ref : mg "moved_ref" = some (.ref a_moved_ref)
  b_moved_ref : Binds K d_moved_ref ["ref", "old", "new", "renamed"] []
  a_moved : Addr
  d_moved : FuncData
  F_moved : Fun K "moved" "moved" s_moved a_moved d_moved
  g_moved : mg "moved" = some (.ref a_moved)
  b_moved : Binds K d_moved ["derivation", "old", "new", "renamed"] []
  a_free_refs : Addr
  d_free_refs : FuncData
  F_free_refs : Fun K "free_refs" "free_refs" s_free_refs a_free_refs d_free_refs
  g_free_refs : mg "free_refs" = some (.ref a_free_refs)
  b_free_refs : Binds K d_free_refs ["derivation", "level"] []
  a__law_cell : Addr
  d__law_cell : FuncData
  F__law_cell : Fun K "_law_cell" "_law_cell" s__law_cell a__law_cell d__law_cell
  g__law_cell : mg "_law_cell" = some (.ref a__law_cell)
  b__law_cell : Binds K d__law_cell ["script", "k"] []
  a__law_pool : Addr
  d__law_pool : FuncData
  F__law_pool : Fun K "_law_pool" "_law_pool" s__law_pool a__law_pool d__law_pool
  g__law_pool : mg "_law_pool" = some (.ref a__law_pool)
  b__law_pool : Binds K d__law_pool ["script", "k"] []
  a__law_next : Addr
  d__law_next : FuncData
  F__law_next : Fun K "_law_next" "_law_next" s__law_next a__law_next d__law_next
  g__law_next : mg "_law_next" = some (.ref a__law_next)
  b__law_next : Binds K d__law_next ["pool", "many"] []
  a__law_new_name : Addr
  d__law_new_name : FuncData
  F__law_new_name : Fun K "_law_new_name" "_law_new_name" s__law_new_name a__law_new_name d__law_new_name
  g__law_new_name : mg "_law_new_name" = some (.ref a__law_new_name)
  b__law_new_name : Binds K d__law_new_name ["pool", "taken"] []
  a__law_row : Addr
  d__law_row : FuncData
  F__law_row : Fun K "_law_row" "_law_row" s__law_row a__law_row d__law_row
  g__law_row : mg "_law_row" = some (.ref a__law_row)
  b__law_row : Binds K d__law_row ["item"] []
  a__law_moved : Addr
  d__law_moved : FuncData
  F__law_moved : Fun K "_law_moved" "_law_moved" s__law_moved a__law_moved d__law_moved
  g__law_moved : mg "_law_moved" = some (.ref a__law_moved)
  b__law_moved : Binds K d__law_moved ["tree", "old", "new", "names"] []
  a__law_outside : Addr
  d__law_outside : FuncData
  F__law_outside : Fun K "_law_outside" "_law_outside" s__law_outside a__law_outside d__law_outside
  g__law_outside : mg "_law_outside" = some (.ref a__law_outside)
  b__law_outside : Binds K d__law_outside ["tree", "level"] []
  a__law_word : Addr
  d__law_word : FuncData
  F__law_word : Fun K "_law_word" "_law_word" s__law_word a__law_word d__law_word
  g__law_word : mg "_law_word" = some (.ref a__law_word)
  b__law_word : Binds K d__law_word ["state"] []
  a__law_mode : Addr
  d__law_mode : FuncData
  F__law_mode : Fun K "_law_mode" "_law_mode" s__law_mode a__law_mode d__law_mode
  g__law_mode : mg "_law_mode" = some (.ref a__law_mode)
  b__law_mode : Binds K d__law_mode ["pool", "room"] []
  a__law_sentence : Addr
  d__law_sentence : FuncData
  F__law_sentence : Fun K "_law_sentence" "_law_sentence" s__law_sentence a__law_sentence d__law_sentence
  g__law_sentence : mg "_law_sentence" = some (.ref a__law_sentence)
  b__law_sentence : Binds K d__law_sentence ["state", "depth"] []
  a__law_ref : Addr
  d__law_ref : FuncData
  F__law_ref : Fun K "_law_ref" "_law_ref" s__law_ref a__law_ref d__law_ref
  g__law_ref : mg "_law_ref" = some (.ref a__law_ref)
  b__law_ref : Binds K d__law_ref ["state", "level"] []
  a__law_grow : Addr
  d__law_grow : FuncData
  F__law_grow : Fun K "_law_grow" "_law_grow" s__law_grow a__law_grow d__law_grow
  g__law_grow : mg "_law_grow" = some (.ref a__law_grow)
  b__law_grow : Binds K d__law_grow ["state", "level", "room", "many"] []
  a__law_target : Addr
  d__law_target : FuncData
  F__law_target : Fun K "_law_target" "_law_target" s__law_target a__law_target d__law_target
  g__law_target : mg "_law_target" = some (.ref a__law_target)
  b__law_target : Binds K d__law_target ["pool", "names", "room"] []
  a__law_renaming : Addr
  d__law_renaming : FuncData
  F__law_renaming : Fun K "_law_renaming" "_law_renaming" s__law_renaming a__law_renaming d__law_renaming
  g__law_renaming : mg "_law_renaming" = some (.ref a__law_renaming)
  b__law_renaming : Binds K d__law_renaming ["pool", "refs", "names", "old", "new"] []
  a__law_once_each : Addr
  d__law_once_each : FuncData
  F__law_once_each : Fun K "_law_once_each" "_law_once_each" s__law_once_each a__law_once_each d__law_once_each
  g__law_once_each : mg "_law_once_each" = some (.ref a__law_once_each)
  b__law_once_each : Binds K d__law_once_each ["refs", "images"] []
  a__law_is_tree : Addr
  d__law_is_tree : FuncData
  F__law_is_tree : Fun K "_law_is_tree" "_law_is_tree" s__law_is_tree a__law_is_tree d__law_is_tree
  g__law_is_tree : mg "_law_is_tree" = some (.ref a__law_is_tree)
  b__law_is_tree : Binds K d__law_is_tree ["told", "due"] []
  a__law_moves : Addr
  d__law_moves : FuncData
  F__law_moves : Fun K "_law_moves" "_law_moves" s__law_moves a__law_moves d__law_moves
  g__law_moves : mg "_law_moves" = some (.ref a__law_moves)
  b__law_moves : Binds K d__law_moves ["tree", "old", "new", "names", "due"] []
  a__law_lists : Addr
  d__law_lists : FuncData
  F__law_lists : Fun K "_law_lists" "_law_lists" s__law_lists a__law_lists d__law_lists
  g__law_lists : mg "_law_lists" = some (.ref a__law_lists)
  b__law_lists : Binds K d__law_lists ["tree", "level", "due"] []
  a__law_two_hops : Addr
  d__law_two_hops : FuncData
  F__law_two_hops : Fun K "_law_two_hops" "_law_two_hops" s__law_two_hops a__law_two_hops d__law_two_hops
  g__law_two_hops : mg "_law_two_hops" = some (.ref a__law_two_hops)
  b__law_two_hops : Binds K d__law_two_hops ["state", "tree", "pool", "levels"] []
  a__law_back : Addr
  d__law_back : FuncData
  F__law_back : Fun K "_law_back" "_law_back" s__law_back a__law_back d__law_back
  g__law_back : mg "_law_back" = some (.ref a__law_back)
  b__law_back : Binds K d__law_back ["state", "tree", "pool", "a", "b"] []
  a_law : Addr
  d_law : FuncData
  F_law : Fun K "law" "law" s_law a_law d_law
  g_law : mg "law" = some (.ref a_law)
  b_law : Binds K d_law ["script"] []
  z_abs : mg "abs" = none
  z_dict : mg "dict" = none
  z_int : mg "int" = none
  z_isinstance : mg "isinstance" = none
  z_len : mg "len" = none
  z_list : mg "list" = none
  z_max : mg "max" = none
  z_min : mg "min" = none
  z_range : mg "range" = none
  z_repr : mg "repr" = none
  z_str : mg "str" = none
  z_tuple : mg "tuple" = none
  p_PREMISES : Addr
  g_PREMISES : mg "PREMISES" = some (.ref p_PREMISES)
  prem : ∀ t : Row, KDct K w p_PREMISES t.name (.int (t.kids.length : Int))
section
variable {K : PySem.W.Frag} {w : World} {mg : Str → Option Value}
theorem Tx.k_premises (T : Tx K w mg) : PySem.W.keepIn K (.ref T.a_premises) = true := T.F_premises.kp
theorem Tx.k_rebuilt (T : Tx K w mg) : PySem.W.keepIn K (.ref T.a_rebuilt) = true := T.F_rebuilt.kp
theorem Tx.k_refers_to (T : Tx K w mg) : PySem.W.keepIn K (.ref T.a_refers_to) = true := T.F_refers_to.kp
theorem Tx.k_moved_ref (T : Tx K w mg) : PySem.W.keepIn K (.ref T.a_moved_ref) = true := T.F_moved_ref.kp
theorem Tx.k_moved (T : Tx K w mg) : PySem.W.keepIn K (.ref T.a_moved) = true := T.F_moved.kp
theorem Tx.k_free_refs (T : Tx K w mg) : PySem.W.keepIn K (.ref T.a_free_refs) = true := T.F_free_refs.kp
theorem Tx.k__law_cell (T : Tx K w mg) : PySem.W.keepIn K (.ref T.a__law_cell) = true := T.F__law_cell.kp
theorem Tx.k__law_pool (T : Tx K w mg) : PySem.W.keepIn K (.ref T.a__law_pool) = true := T.F__law_pool.kp
theorem Tx.k__law_next (T : Tx K w mg) : PySem.W.keepIn K (.ref T.a__law_next) = true := T.F__law_next.kp
theorem Tx.k__law_new_name (T : Tx K w mg) : PySem.W.keepIn K (.ref T.a__law_new_name) = true := T.F__law_new_name.kp
theorem Tx.k__law_row (T : Tx K w mg) : PySem.W.keepIn K (.ref T.a__law_row) = true := T.F__law_row.kp
theorem Tx.k__law_moved (T : Tx K w mg) : PySem.W.keepIn K (.ref T.a__law_moved) = true := T.F__law_moved.kp
theorem Tx.k__law_outside (T : Tx K w mg) : PySem.W.keepIn K (.ref T.a__law_outside) = true := T.F__law_outside.kp
theorem Tx.k__law_word (T : Tx K w mg) : PySem.W.keepIn K (.ref T.a__law_word) = true := T.F__law_word.kp
theorem Tx.k__law_mode (T : Tx K w mg) : PySem.W.keepIn K (.ref T.a__law_mode) = true := T.F__law_mode.kp
theorem Tx.k__law_sentence (T : Tx K w mg) : PySem.W.keepIn K (.ref T.a__law_sentence) = true := T.F__law_sentence.kp
theorem Tx.k__law_ref (T : Tx K w mg) : PySem.W.keepIn K (.ref T.a__law_ref) = true := T.F__law_ref.kp
theorem Tx.k__law_grow (T : Tx K w mg) : PySem.W.keepIn K (.ref T.a__law_grow) = true := T.F__law_grow.kp
theorem Tx.k__law_target (T : Tx K w mg) : PySem.W.keepIn K (.ref T.a__law_target) = true := T.F__law_target.kp
theorem Tx.k__law_renaming (T : Tx K w mg) : PySem.W.keepIn K (.ref T.a__law_renaming) = true := T.F__law_renaming.kp
theorem Tx.k__law_once_each (T : Tx K w mg) : PySem.W.keepIn K (.ref T.a__law_once_each) = true := T.F__law_once_each.kp
theorem Tx.k__law_is_tree (T : Tx K w mg) : PySem.W.keepIn K (.ref T.a__law_is_tree) = true := T.F__law_is_tree.kp
theorem Tx.k__law_moves (T : Tx K w mg) : PySem.W.keepIn K (.ref T.a__law_moves) = true := T.F__law_moves.kp
theorem Tx.k__law_lists (T : Tx K w mg) : PySem.W.keepIn K (.ref T.a__law_lists) = true := T.F__law_lists.kp
theorem Tx.k__law_two_hops (T : Tx K w mg) : PySem.W.keepIn K (.ref T.a__law_two_hops) = true := T.F__law_two_hops.kp
theorem Tx.k__law_back (T : Tx K w mg) : PySem.W.keepIn K (.ref T.a__law_back) = true := T.F__law_back.kp
theorem Tx.k_law (T : Tx K w mg) : PySem.W.keepIn K (.ref T.a_law) = true := T.F_law.kp
end
end HA

/-! The program's defs. -/
namespace HA
open PySem PySem.Spec PyProof.Rows L2
section
variable {P : Program} {w : World} {K : PySem.W.Frag} {mg : Str → Option Value} {base : Heap}
/-- a derivation's tuple at an address -/
theorem Row.at_ {H : Hp} {v : V} {t : Row} (h : Dp K H v t.d) : ∃ a xs, v = .ref a ∧ SqT K H a (.str t.name :: xs) ∧ DpAll K H xs (t.mid ++ t.kids.map Row.d) := by
  rw [Row.d_eq] at h
  obtain ⟨a, ys, rfl, hs, ha⟩ := h.tup_inv
  cases ha with
  | cons h1 h2 =>
    obtain rfl := h1.str_inv
    exact ⟨a, _, rfl, hs, h2⟩
theorem Row.len_mid (t : Row) : t.mid.length ≤ 3 := by cases t <;> simp [Row.mid]
theorem Row.len_kids (t : Row) : t.kids.length ≤ 2 := by cases t <;> simp [Row.kids]
def spPremises (K : PySem.W.Frag) : Sp := fun vs H Q _ => ∃ (v : V) (t : Row), vs = [v] ∧ Dp K H v t.d ∧
  ∀ H' p ws, Same H H' → H p = none → H' p = some (.lst ws) → DpAll K H' ws (t.kids.map Row.d) → Q (.ref p) H'
theorem ok_premises (T : Tx K w mg) {k : Nat} : FnOk P w K mg base CX0 (k + 1) T.a_premises T.d_premises ["derivation"] (spPremises K) := by
  refine T.F_premises.ok sc_premises (fun vs H Q E h => ?_) (fun cdv A outer s H vs Q E hr h => ?_)
  · obtain ⟨v, t, rfl, _⟩ := h
    rfl
  obtain ⟨v, t, rfl, ht, q⟩ := h
  obtain ⟨a, xs, rfl, hs, hx⟩ := Row.at_ ht
  refine ⟨_, (pss_cons (ps_set (i := 1) sc_premises.nd rfl (Or.inl rfl) (pe_ix ix_kdict (pe_glob (v := .ref T.p_PREMISES) rfl T.g_PREMISES rfl) (pe_ix ix_tup (pv 0) pe_int (fun _ _ => rfl)) (fun _ _ => rfl)))
    (pss_one (ps_ret (pe_callTy call_listN (by rfl) T.z_list (by decide +kernel) (pa_cons (pe_slice sl_tupN (pv 0) (po_some (pe_op op_sub (pe_callB call_len_seq (by rfl) T.z_len (by decide +kernel) (pa_cons (pv 0) pa_nil)) (pv 1))) po_none) pa_nil))))), ?_⟩
  refine ⟨.ref a, rfl, a, _, 0, .str t.name, rfl, rfl, hs, atI_at (j := 0) rfl rfl, T.p_PREMISES, t.name, _, rfl, rfl, T.prem t, ?_⟩
  refine ⟨.ref a, rfl, .ref a, rfl, a, _, rfl, .inr hs, _, rfl, _, _, rfl, rfl, _, rfl, a, _, rfl, hs, fun H1 b s1 hb => ?_⟩
  have hl := hx.len
  rw [List.length_append, List.length_map] at hl
  have e : ((xs.length + 1 : Nat) : Int) - (t.kids.length : Int) = ((t.mid.length + 1 : Nat) : Int) := by omega
  rw [List.length_cons, e, cut_from, List.drop_succ_cons] at hb
  refine ⟨b, _, rfl, .inr hb, fun H2 l s2 nl hl2 => q H2 l _ (s1.trans s2) (s1.free nl) hl2 ?_⟩
  have := (Dp.smAll (s1.trans s2) _ _ hx).drop t.mid.length
  rw [List.drop_left] at this
  exact this
theorem iteB {A B : Prop} {b : Bool} (h : b = true → A) (h' : b = false → B) : if b = true then A else B := by
  cases b with
  | true => exact h rfl
  | false => exact h' rfl
def spRebuilt (K : PySem.W.Frag) : Sp := fun vs H Q _ => ∃ (v : V) (t : Row) (p : Addr) (ks : List V) (ds : List PyData),
  vs = [v, .ref p] ∧ Dp K H v t.d ∧ SqL K H p ks ∧ DpAll K H ks ds ∧ ds.length = t.kids.length ∧
  ∀ H' r, Same H H' → Dp K H' r (.tuple (.str t.name :: (t.mid ++ ds))) → Q r H'
theorem ok_rebuilt (T : Tx K w mg) {k : Nat} : FnOk P w K mg base CX0 (k + 1) T.a_rebuilt T.d_rebuilt ["derivation", "parts"] (spRebuilt K) := by
  refine T.F_rebuilt.ok sc_rebuilt (fun vs H Q E h => ?_) (fun cdv A outer s H vs Q E hr h => ?_)
  · obtain ⟨v, t, p, ks, ds, rfl, _⟩ := h
    rfl
  obtain ⟨v, t, p, ks, ds, rfl, ht, hp, hk, hn, q⟩ := h
  obtain ⟨a, xs, rfl, hs, hx⟩ := Row.at_ ht
  refine ⟨_, (pss_cons (ps_set (i := 2) sc_rebuilt.nd rfl (Or.inl rfl) (pe_ix ix_kdict (pe_glob (v := .ref T.p_PREMISES) rfl T.g_PREMISES rfl) (pe_ix ix_tup (pv 0) pe_int (fun _ _ => rfl)) (fun _ _ => rfl)))
    (pss_one (ps_ret (pe_op op_catN (pe_slice sl_tupN (pv 0) po_none (po_some (pe_op op_sub (pe_callB call_len_seq (by rfl) T.z_len (by decide +kernel) (pa_cons (pv 0) pa_nil)) (pv 2)))) (pe_callTy call_tupleN (by rfl) T.z_tuple (by decide +kernel) (pa_cons (pv 1) pa_nil)))))), ?_⟩
  refine ⟨.ref a, rfl, a, _, 0, .str t.name, rfl, rfl, hs, atI_at (j := 0) rfl rfl, T.p_PREMISES, t.name, _, rfl, rfl, T.prem t, ?_⟩
  refine ⟨.ref a, rfl, .ref a, rfl, a, _, rfl, .inr hs, _, rfl, _, _, rfl, rfl, _, rfl, a, _, rfl, hs, fun H1 b s1 hb => ?_⟩
  have hl := hx.len
  rw [List.length_append, List.length_map] at hl
  have e : ((xs.length + 1 : Nat) : Int) - (t.kids.length : Int) = ((t.mid.length + 1 : Nat) : Int) := by omega
  rw [List.length_cons, e, cut_to _ _ (by rw [List.length_cons]; omega), List.take_succ_cons] at hb
  refine ⟨.ref p, rfl, p, ks, rfl, .inl (s1.seq hp), fun H2 l s2 hl2 => ?_⟩
  have hkl := hk.len
  have lm := t.len_mid
  have lk := t.len_kids
  refine ⟨b, l, _, _, rfl, rfl, s2.seqT hb, hl2, sz_le ?_, fun H3 c s3 hc => q H3 _ ((s1.trans s2).trans s3) (.tup hc ?_)⟩
  · rw [List.length_cons, List.length_take]; omega
  · have h1 := (Dp.smAll ((s1.trans s2).trans s3) _ _ hx).take t.mid.length
    rw [List.take_left] at h1
    exact .cons (.str _) (h1.app (Dp.smAll ((s1.trans s2).trans s3) _ _ hk))
def refNames : List V := [.str "own", .str "pick", .str "pay", .str "open"]
theorem ref_name (t : Row) : inV (.str t.name) refNames = t.ref.isSome := by
  cases t <;> (dsimp only [Row.name, Row.ref, Option.isSome]; decide +kernel)
def Row.refV (t : Row) : V := match t.ref with
  | some r => kV r
  | none => .non
def spRefers (K : PySem.W.Frag) : Sp := fun vs H Q _ => ∃ (v : V) (t : Row), vs = [v] ∧ Dp K H v t.d ∧
  ∀ H', Same H H' → Q t.refV H'
theorem ok_refers (T : Tx K w mg) {k : Nat} : FnOk P w K mg base CX0 (k + 1) T.a_refers_to T.d_refers_to ["derivation"] (spRefers K) := by
  refine T.F_refers_to.ok sc_refers_to (fun vs H Q E h => ?_) (fun cdv A outer s H vs Q E hr h => ?_)
  · obtain ⟨v, t, rfl, _⟩ := h
    rfl
  obtain ⟨v, t, rfl, ht, q⟩ := h
  obtain ⟨a, xs, rfl, hs, hx⟩ := Row.at_ ht
  refine ⟨_, (pss_cons (ps_if (pt_cmpR op_in_seq (pe_ix ix_tup (pv 0) pe_int (fun _ _ => rfl)) (pe_tupN (pa_cons pe_str (pa_cons pe_str (pa_cons pe_str (pa_cons pe_str pa_nil))))) (by rfl))
      (pss_one (ps_ret (pe_ix ix_tup (pv 0) pe_int (fun _ _ => rfl))))
      pss_nil)
    (pss_one (ps_ret pe_non))), ?_⟩
  refine ⟨.ref a, rfl, a, _, 0, .str t.name, rfl, rfl, hs, atI_at (j := 0) rfl rfl, by decide, fun H1 p s1 np hp => ?_⟩
  refine ⟨p, _, rfl, .inr (SqT.of hp), rfl, rfl, _, rfl, ?_⟩
  refine iteB (fun e => ?_) fun e => ?_
  · have e' : inV (.str t.name) refNames = true := e
    rw [ref_name] at e'
    cases hr' : t.ref with
    | none => rw [hr'] at e'; cases e'
    | some r =>
      obtain ⟨m, hm⟩ := Row.mid_some hr'
      rw [hm] at hx
      cases hx with
      | cons h1 h2 =>
        obtain rfl := h1.key_inv
        refine ⟨.ref a, rfl, a, _, 1, kV r, rfl, rfl, s1.seqT hs, atI_at (j := 1) rfl rfl, ?_⟩
        have := q H1 s1
        unfold Row.refV at this
        rw [hr'] at this
        exact this
  · have e' : inV (.str t.name) refNames = false := e
    rw [ref_name] at e'
    cases hr' : t.ref with
    | some r => rw [hr'] at e'; cases e'
    | none =>
      have := q H1 s1
      unfold Row.refV at this
      rw [hr'] at this
      exact this
def spMref : Sp := fun vs H Q _ => ∃ (r : Key) (old new : Int) (R : Addr) (ρ : Ren), vs = [kV r, .int old, .int new, .ref R] ∧
  H R = some (.dK ρ.kv) ∧ Q (kV (mvRef old new ρ r)) H
theorem ok_mref (T : Tx K w mg) {k : Nat} : FnOk P w K mg base CX0 (k + 1) T.a_moved_ref T.d_moved_ref ["ref", "old", "new", "renamed"] spMref := by
  refine T.F_moved_ref.ok sc_moved_ref (fun vs H Q E h => ?_) (fun cdv A outer s H vs Q E hr h => ?_)
  · obtain ⟨r, old, new, R, ρ, rfl, _⟩ := h
    rfl
  obtain ⟨r, old, new, R, ρ, rfl, hR, q⟩ := h
  obtain ⟨ty, h1, h2, _⟩ := ty_key (K := K) (H := H) r
  refine ⟨_, (pss_cons (ps_if (PW.pt (pw_and (pt_val (pe_callB call_isi (by rfl) T.z_isinstance (by decide +kernel) (pa_cons (pv 0) (pa_cons (pe_bltn (v := .ty "int") (by rfl) T.z_int (by decide +kernel) rfl) pa_nil)))) (pw_and1 (pt_cmpR op_ge (pv 0) (pv 1) (nomark _)))))
      (pss_one (ps_ret (pe_op op_sub (pe_op op_add (pv 0) (pv 2)) (pv 1))))
      pss_nil)
    (pss_cons (ps_if (pt_cmp (pc_din (hu_of hr) (pv 0) (pv 3)))
      (pss_one (ps_ret (pe_dget (hu_of hr) (pv 3) (pv 0) (fun _ _ => rfl))))
      pss_nil)
    (pss_one (ps_ret (pv 0))))), ?_⟩
  refine ⟨_, rfl, _, _, ty, .type "int", _, rfl, .ty _, h1, h2, _, rfl, ?_⟩
  have look : mvRef old new ρ r = ρ.to r → tSeq (tIfS (tB (tDIn (tVar 0) (tVar 3))) (tRet (tDGet (tVar 3) (tVar 0))) tNext) (tRet (tVar 0))
      { nx := fun x H' => Q V.non H', rt := Q } (L2.start N_moved_ref [kV r, V.int old, V.int new, V.ref R]) H := fun hn => by
    have e := Ren.valV ρ r
    have g : DGet H R (kV r) _ := DGet.k (k := r) hR
    refine ⟨_, rfl, _, rfl, R, _, rfl, g, _, rfl, ?_⟩
    rw [hn] at q
    unfold Ren.to at q
    rw [e] at g ⊢
    cases hl : ρ.look r with
    | none =>
      rw [hl] at q
      exact iteF ⟨_, rfl, q⟩
    | some z =>
      rw [hl] at q g
      exact iteT ⟨_, rfl, _, rfl, R, _, rfl, g, q⟩
  cases r with
  | inl i =>
    refine iteT ⟨_, rfl, _, rfl, i, old, rfl, rfl, _, rfl, ?_⟩
    refine ite2 (c := decide (old ≤ i) = true) (fun h => ?_) fun h => ?_
    · have h' := of_decide_eq_true h
      refine ⟨_, rfl, _, rfl, _, _, rfl, rfl, _, rfl, _, _, rfl, rfl, ?_⟩
      have e : mvRef old new ρ (.inl i) = .inl (i + new - old) := if_pos h'
      rw [e] at q
      exact q
    · refine look ?_
      unfold mvRef
      exact if_neg fun z => h (decide_eq_true z)
  | inr x => exact look rfl
theorem Kd.tu (k : Kd) : HA.tu k.d = true := by cases k <;> rfl
theorem Sn.tu (s : Sn) : HA.tu s.d = true := by
  induction s with
  | word x => rfl
  | menu a b h1 h2 =>
    show (true && (HA.tu a.d && (HA.tu b.d && true))) = true
    rw [h1, h2]; rfl
  | trade k a b h1 h2 =>
    show (true && (HA.tu k.d && (HA.tu a.d && (HA.tu b.d && true)))) = true
    rw [h1, h2, k.tu]; rfl
theorem Row.tu (t : Row) : HA.tu t.d = true := by
  induction t <;> simp only [Row.d, HA.tu, HA.tuAll, tu_key, Kd.tu, Sn.tu, Bool.and_self, *]
theorem Row.tuKids (l : List Row) : tuAll (l.map Row.d) = true := by
  induction l with
  | nil => rfl
  | cons t l ih =>
    show (HA.tu t.d && tuAll (l.map Row.d)) = true
    rw [ih, t.tu]; rfl
/-- a list that was made and grows, while all that stood stays -/
theorem grown {H1 : Hp} {D : Addr} {acc : List V} {ds : List PyData} {y : V} {d : PyData} (e : H1 D = some (.lst acc)) (h : DpAll K H1 acc ds) (hy : Dp K H1 y d) (t : tuAll ds = true) (t' : HA.tu d = true) :
    DpAll K (upd H1 D (.lst (acc ++ [y]))) (acc ++ [y]) (ds ++ [d]) := by
  have k : Kp [D] H1 (upd H1 D (.lst (acc ++ [y]))) := Kp.wr (.head _)
  exact (Dp.kpAll k (Lsts.one e) _ _ t h).app (.cons (Dp.kp k (Lsts.one e) _ _ t' hy) .nil)
def spMoved (K : PySem.W.Frag) (n : Nat) : Sp := fun vs H Q _ => ∃ (v : V) (t : Row) (old new : Int) (R : Addr) (ρ : Ren),
  vs = [v, .int old, .int new, .ref R] ∧ Dp K H v t.d ∧ t.ht ≤ n ∧ H R = some (.dK ρ.kv) ∧
  ∀ H' r, Same H H' → Dp K H' r (t.mv old new ρ).d → Q r H'
theorem moved_step (T : Tx K w mg) {n : Nat} (G_moved : FnOk P w K mg base CX0 (n + 1) T.a_moved T.d_moved ["derivation", "old", "new", "renamed"] (spMoved K n)) :
    FnOk P w K mg base CX0 (n + 2) T.a_moved T.d_moved ["derivation", "old", "new", "renamed"] (spMoved K (n + 1)) := by
  have G_premises := ok_premises (P := P) (base := base) T (k := n)
  have G_rebuilt := ok_rebuilt (P := P) (base := base) T (k := n)
  have G_refers_to := ok_refers (P := P) (base := base) T (k := n)
  have G_moved_ref := ok_mref (P := P) (base := base) T (k := n)
  refine T.F_moved.ok sc_moved (fun vs H Q E h => ?_) (fun cdv A outer s H vs Q E hr h => ?_)
  · obtain ⟨v, t, old, new, R, ρ, rfl, _⟩ := h
    rfl
  obtain ⟨v, t, old, new, R, ρ, rfl, ht, hn, hR, q⟩ := h
  refine ⟨_, (pss_cons (ps_setLc (i := 4) (own := [("premise", 7)]) (g := gName 7) rfl sc_moved.nd rfl rfl (sw_true rfl rfl rfl (by decide +kernel)) (pi_list (pe_call (G_premises) hr (by rfl) T.g_premises T.k_premises T.b_premises .nil pass0 (pa_cons (pv 0) pa_nil))) (blkOk_by (own := [("premise", 7)]) (N := N_moved) (sc := defScope s_moved) (by decide +kernel)) (fun _ _ _ _ _ => pg_name (i := 7) sc_moved.nd rfl (Or.inl rfl)) (fun _ _ _ _ _ => pts_nil) (fun _ _ _ _ _ => (pe_call (G_moved) hr (by rfl) T.g_moved T.k_moved T.b_moved .nil pass0 (pa_cons (pv 7) (pa_cons (pv 1) (pa_cons (pv 2) (pa_cons (pv 3) pa_nil)))))))
    (pss_cons (ps_set (i := 5) sc_moved.nd rfl (Or.inl rfl) (pe_call (G_rebuilt) hr (by rfl) T.g_rebuilt T.k_rebuilt T.b_rebuilt .nil pass0 (pa_cons (pv 0) (pa_cons (pv 4) pa_nil))))
    (pss_cons (ps_set (i := 6) sc_moved.nd rfl (Or.inl rfl) (pe_call (G_refers_to) hr (by rfl) T.g_refers_to T.k_refers_to T.b_refers_to .nil pass0 (pa_cons (pv 0) pa_nil)))
    (pss_cons (ps_if (pt_cmpR op_isN (pv 6) pe_non (nomark _))
      (pss_one (ps_ret (pv 5)))
      pss_nil)
    (pss_one (ps_ret (pe_op op_catN (pe_tupN (pa_cons (pe_ix ix_tup (pv 5) pe_int (fun _ _ => rfl)) (pa_cons (pe_call (G_moved_ref) hr (by rfl) T.g_moved_ref T.k_moved_ref T.b_moved_ref .nil pass0 (pa_cons (pv 6) (pa_cons (pv 1) (pa_cons (pv 2) (pa_cons (pv 3) pa_nil))))) pa_nil))) (pe_slice sl_tupN (pv 5) (po_some pe_int) po_none)))))))), ?_⟩
  -- parts = [moved(premise, old, new, renamed) for premise in premises(derivation)]
  refine ⟨v, rfl, v, t, rfl, ht, fun H1 p ws s1 np hp hw => ⟨p, rfl, ⟨ws, SqL.of hp⟩, fun D nD => ?_⟩⟩
  have lw := hw.len
  rw [List.length_map] at lw
  refine lc_list (xs := ws) (fun i H2 => Same H1 H2 ∧ ∃ acc, H2 D = some (.lst acc) ∧ DpAll K H2 acc (((t.kids.take i).map (Row.mv old new ρ)).map Row.d))
    ⟨Same.new nD, [], upd_same, .nil⟩ (fun i H2 _ pv => pv.1.seq (SqL.of hp)) (fun i x H2 hi pv => ?_) fun H2 pv => ?_
  · obtain ⟨s2, acc, hD, ha⟩ := pv
    obtain ⟨d, hd, hx⟩ := hw.atV hi
    rw [List.getElem?_map] at hd
    cases hc : t.kids[i]? with
    | none => rw [hc] at hd; cases hd
    | some c =>
      rw [hc] at hd
      cases hd
      have cm : c ∈ t.kids := List.mem_of_getElem? hc
      refine ⟨rfl, ?_⟩
      refine ⟨_, rfl, _, rfl, _, rfl, _, rfl, x, c, old, new, R, ρ, rfl, Dp.sm s2 _ _ hx, by have := Row.ht_kid cm; omega, s2 _ _ (s1 _ _ hR), fun H3 r s3 hr3 => ?_⟩
      have hD3 := s3 _ _ hD
      have la : acc.length ≤ 100000 := by
        have h1 := ha.len
        have h2 := t.len_kids
        rw [List.length_map, List.length_map, List.length_take] at h1
        omega
      refine ⟨acc, hD3, sz_lt la, Same.mut (s2.trans s3) nD, acc ++ [r], upd_same, ?_⟩
      rw [List.take_add_one, hc]
      simp only [Option.toList, List.map_append, List.map_cons, List.map_nil]
      exact grown hD3 (Dp.smAll s3 _ _ ha) hr3 (Row.tuKids _) (Row.tu _)
  · obtain ⟨s2, acc, hD, ha⟩ := pv
    rw [lw, List.take_length] at ha
    -- result = rebuilt(derivation, parts)
    have s12 := s1.trans s2
    refine ⟨v, rfl, .ref D, rfl, v, t, D, acc, _, rfl, Dp.sm s12 _ _ ht, SqL.of hD, ha, by simp, fun H3 r s3 hr3 => ?_⟩
    -- ref = refers_to(derivation)
    refine ⟨v, rfl, v, t, rfl, Dp.sm (s12.trans s3) _ _ ht, fun H4 s4 => ?_⟩
    have s04 := (s12.trans s3).trans s4
    refine ⟨_, rfl, rfl, _, rfl, ?_⟩
    cases hf : t.ref with
    | none =>
      have e : t.refV = .non := by unfold Row.refV; rw [hf]
      rw [e]
      refine iteT ⟨r, rfl, q H4 r s04 ?_⟩
      rw [Row.mv_none hf]
      exact Dp.sm s4 _ _ hr3
    | some f =>
      have e : t.refV = kV f := by unfold Row.refV; rw [hf]
      obtain ⟨m, hm⟩ := Row.mid_some hf
      rw [e]
      have nn : ¬ kV f = .non := by cases f <;> intro z <;> cases z
      rw [hm] at hr3
      obtain ⟨b, ys, rfl, hb, hys⟩ := (Dp.sm s4 _ _ hr3).tup_inv
      cases hys with
      | cons y0 hys =>
        obtain rfl := y0.str_inv
        cases hys with
        | cons y1 hys =>
          obtain rfl := y1.key_inv
          refine iteB (fun z => absurd (of_decide_eq_true z) nn) fun _ => ?_
          refine ⟨.ref b, rfl, b, _, 0, .str t.name, rfl, rfl, hb, atI_at (j := 0) rfl rfl, ?_⟩
          refine ⟨_, rfl, _, rfl, _, rfl, _, rfl, f, old, new, R, ρ, rfl, s04 _ _ hR, (by show 2 ≤ 1000; decide), fun H5 c s5 nc hc => ?_⟩
          refine ⟨.ref b, rfl, 2, rfl, b, _, rfl, s5.seqT hb, fun H6 g s6 hg => ?_⟩
          rw [show (2 : Int) = ((2 : Nat) : Int) from rfl, cut_from, List.drop_succ_cons, List.drop_succ_cons, List.drop_zero] at hg
          have ly : _ = (m ++ List.map Row.d (List.map (Row.mv old new ρ) t.kids)).length := hys.len
          have lm := t.len_mid
          have lk := t.len_kids
          rw [hm, List.length_cons] at lm
          rw [List.length_append, List.length_map, List.length_map] at ly
          refine ⟨c, g, _, _, rfl, rfl, s6.seqT (SqT.of hc), hg, sz_le ?_, fun H7 z s7 hz => q H7 _ (((s04.trans s5).trans s6).trans s7) ?_⟩
          · simp only [List.length_cons, List.length_nil]; omega
          · rw [Row.mv_some hf hm]
            exact .tup hz (.cons (.str _) (.cons (Dp.key _) (Dp.smAll ((s5.trans s6).trans s7) _ _ hys)))
theorem ok_moved (T : Tx K w mg) : ∀ n : Nat, FnOk P w K mg base CX0 (n + 1) T.a_moved T.d_moved ["derivation", "old", "new", "renamed"] (spMoved K n)
  | 0 => by
    have no : ∀ vs H Q E, ¬ spMoved K 0 vs H Q E := fun vs H Q E h => by
      obtain ⟨v, t, old, new, R, ρ, _, _, hn, _⟩ := h
      have := t.ht_pos
      omega
    exact ⟨fun vs H Q E h => absurd h (no vs H Q E), fun A outer s H args us vs Q E _ _ _ _ h => absurd h (no vs H Q E)⟩
  | n + 1 => moved_step T (ok_moved T n)
end
end HA

/-! free_refs. -/
namespace HA
open PySem PySem.Spec PyProof.Rows L2
theorem _root_.L2.Same.kp {H H1 H2 : Hp} {F : Addr} (s : Same H H1) (k : Kp [F] H1 H2) (n : H F = none) : Same H H2 := fun b o e =>
  k b o (fun m => by
    cases m with
    | head => rw [n] at e; cases e
    | tail _ m => cases m) (s b o e)
theorem flat_len {α : Type} {m : Nat} : ∀ (L : List (List α)), (∀ l ∈ L, l.length ≤ m) → L.flatten.length ≤ L.length * m
  | [], _ => by simp
  | l :: L, h => by
    have h1 := flat_len L fun x hx => h x (.tail _ hx)
    have h2 := h l (.head _)
    rw [List.flatten_cons, List.length_append, List.length_cons, Nat.add_mul]
    omega
theorem addTo_flat (level : Int) (f : List Key) : ∀ (L : List Row), addTo f (L.map fun c => c.free level).flatten = addTo f (L.map fun c => c.refs.filter (isFree level)).flatten
  | [] => rfl
  | c :: L => by
    rw [List.map_cons, List.map_cons, List.flatten_cons, List.flatten_cons, addTo_app, addTo_app, Row.free, addTo_one, addTo_flat level _ L]
def Row.base (t : Row) (level : Int) : List Key := addTo [] (t.ref.toList.filter (isFree level))
theorem Row.base_eq (t : Row) (level : Int) : t.base level = t.ref.toList.filter (isFree level) := by
  unfold Row.base
  cases h : t.ref with
  | none => rfl
  | some r =>
    show addTo [] (List.filter (isFree level) [r]) = List.filter (isFree level) [r]
    rw [List.filter_cons, List.filter_nil]
    by_cases h : isFree level r = true
    · rw [if_pos h]; rfl
    · rw [if_neg h]; rfl
theorem Row.free_eq (t : Row) (level : Int) : t.free level = addTo (t.base level) (t.kids.map fun c => c.free level).flatten := by
  rw [addTo_flat, Row.base, Row.free, Row.refs_eq, List.filter_append, addTo_app, List.filter_flatten, List.map_map]
  rfl
theorem Row.sz_kid {t c : Row} (h : c ∈ t.kids) : c.sz < t.sz := by
  cases t <;> simp only [Row.kids, List.mem_cons, List.not_mem_nil, or_false] at h <;>
    first
    | exact h.elim
    | (subst h; simp only [Row.sz]; omega)
    | (rcases h with rfl | rfl <;> simp only [Row.sz] <;> omega)
section
variable {P : Program} {w : World} {K : PySem.W.Frag} {mg : Str → Option Value} {base : Heap}
def spFree (K : PySem.W.Frag) (n : Nat) : Sp := fun vs H Q _ => ∃ (v : V) (t : Row) (level : Int),
  vs = [v, .int level] ∧ Dp K H v t.d ∧ t.ht ≤ n ∧ t.sz ≤ 10000 ∧
  ∀ H' p, Same H H' → H p = none → H' p = some (.lst ((t.free level).map kV)) → Q (.ref p) H'
theorem free_step (T : Tx K w mg) {n : Nat} (G_free_refs : FnOk P w K mg base CX0 (n + 1) T.a_free_refs T.d_free_refs ["derivation", "level"] (spFree K n)) :
    FnOk P w K mg base CX0 (n + 2) T.a_free_refs T.d_free_refs ["derivation", "level"] (spFree K (n + 1)) := by
  have G_premises := ok_premises (P := P) (base := base) T (k := n)
  have G_refers_to := ok_refers (P := P) (base := base) T (k := n)
  refine T.F_free_refs.ok sc_free_refs (fun vs H Q E h => ?_) (fun cdv A outer s H vs Q E hr h => ?_)
  · obtain ⟨v, t, level, rfl, _⟩ := h
    rfl
  obtain ⟨v, t, level, rfl, ht, hn, hz, q⟩ := h
  refine ⟨_, (pss_cons (ps_set (i := 2) sc_free_refs.nd rfl (Or.inl rfl) (pe_lstN pa_nil))
    (pss_cons (ps_set (i := 3) sc_free_refs.nd rfl (Or.inl rfl) (pe_call (G_refers_to) hr (by rfl) T.g_refers_to T.k_refers_to T.b_refers_to .nil pass0 (pa_cons (pv 0) pa_nil)))
    (C8.pss_cut (ps_if (PW.pt (pw_and (pt_cmpR op_notN (pv 3) pe_non (nomark _)) (pw_and1 (PW.pt (pw_or (pt_val (pe_callB call_isi (by rfl) T.z_isinstance (by decide +kernel) (pa_cons (pv 3) (pa_cons (pe_bltn (v := .ty "str") (by rfl) T.z_str (by decide +kernel) rfl) pa_nil)))) (pw_or1 (pt_cmpR op_lt (pv 3) (pv 1) (nomark _))))))))
      (pss_one (ps_expr (pe_bm PySem.F.plainAttrs_list PySem.F.slot_list_append PySem.F.type_list_append mt_append (pv 2) (pa_cons (pv 3) pa_nil))))
      pss_nil)
    (pss_cons (ps_for PassesOwn.never rfl (pi_list (pe_call (G_premises) hr (by rfl) T.g_premises T.k_premises T.b_premises .nil pass0 (pa_cons (pv 0) pa_nil))) (pg_name (i := 4) sc_free_refs.nd rfl (Or.inl rfl))
      (pss_one (ps_for PassesOwn.never rfl (pi_list (pe_call (G_free_refs) hr (by rfl) T.g_free_refs T.k_free_refs T.b_free_refs .nil pass0 (pa_cons (pv 4) (pa_cons (pv 1) pa_nil)))) (pg_name (i := 5) sc_free_refs.nd rfl (Or.inl rfl))
        (pss_one (ps_if (pt_cmpR op_notIn_seq (pv 5) (pv 2) (by rfl))
          (pss_one (ps_expr (pe_bm PySem.F.plainAttrs_list PySem.F.slot_list_append PySem.F.type_list_append mt_append (pv 2) (pa_cons (pv 5) pa_nil))))
          pss_nil)))))
    (pss_one (ps_ret (pv 2))))))), ?_⟩
  -- found = []; ref = refers_to(derivation)
  refine ⟨Nat.zero_le _, fun H1 F s1 nF hF => ?_⟩
  refine ⟨v, rfl, v, t, rfl, Dp.sm s1 _ _ ht, fun H2 s2 => ?_⟩
  have hF2 := s2 _ _ hF
  have s12 := s1.trans s2
  -- if ref is not None and (..): found.append(ref)
  refine ⟨fun σ' H' => σ' = [some v, some (.int level), some (.ref F), some t.refV, none, none] ∧ Kp [F] H2 H' ∧ H' F = some (.lst ((t.base level).map kV)), ?_, ?_⟩
  · have none_way : t.base level = [] → Kp [F] H2 H2 ∧ H2 F = some (.lst ((t.base level).map kV)) := fun e => ⟨Kp.refl _, by rw [e]; exact hF2⟩
    have some_way : ∀ r, t.ref = some r → isFree level r = true → Kp [F] H2 (upd H2 F (.lst ([] ++ [kV r]))) ∧ upd H2 F (.lst ([] ++ [kV r])) F = some (.lst ((t.base level).map kV)) := fun r e f => by
      refine ⟨Kp.wr (.head _), ?_⟩
      rw [upd_same, Row.base_eq, e]
      show _ = some (HO.lst ((List.filter (isFree level) [r]).map kV))
      rw [List.filter_cons, if_pos f]
      rfl
    refine ⟨_, rfl, rfl, _, rfl, ?_⟩
    cases hf : t.ref with
    | none =>
      have e : t.refV = .non := by unfold Row.refV; rw [hf]
      rw [e]
      exact iteF (iteF ⟨rfl, none_way (by rw [Row.base_eq, hf]; rfl)⟩)
    | some f =>
      have e : t.refV = kV f := by unfold Row.refV; rw [hf]
      have nn : ¬ kV f = .non := by cases f <;> intro z <;> cases z
      rw [e]
      refine iteB (fun _ => ?_) fun z => absurd z (by rw [decide_eq_false nn]; decide)
      obtain ⟨ty, h1, _, h3⟩ := ty_key (K := K) (H := H2) f
      refine ⟨_, rfl, _, _, ty, .type "str", _, rfl, .ty _, h1, h3, _, rfl, ?_⟩
      cases f with
      | inr x =>
        refine iteT (iteT ?_)
        exact ⟨_, rfl, .inl ⟨rfl, _, SqL.of hF2⟩, _, rfl, F, [], _, rfl, rfl, hF2, sz_lt (by decide), rfl, some_way _ hf rfl⟩
      | inl i =>
        refine iteF ⟨_, rfl, _, rfl, i, level, rfl, rfl, _, rfl, ?_⟩
        refine ite2 (c := decide (i < level) = true) (fun h => ?_) fun h => ?_
        · exact ⟨_, rfl, .inl ⟨rfl, _, SqL.of hF2⟩, _, rfl, F, [], _, rfl, rfl, hF2, sz_lt (by decide), rfl, some_way _ hf h⟩
        · refine ⟨rfl, none_way ?_⟩
          rw [Row.base_eq, hf]
          show List.filter (isFree level) [Sum.inl i] = []
          rw [List.filter_cons, if_neg (show ¬ isFree level (Sum.inl i) = true from h)]
          rfl
  · rintro σ' H3 ⟨rfl, k3, hF3⟩
    have s03 : Same H H3 := Same.kp s12 k3 nF
    refine ⟨v, rfl, v, t, rfl, Dp.sm s03 _ _ ht, fun H4 p ws s4 np hp hw => ⟨p, rfl, ⟨ws, SqL.of hp⟩, ?_⟩⟩
    have pF : p ∉ [F] := fun m => by
      cases m with
      | head => rw [hF3] at np; cases np
      | tail _ m => cases m
    have lw := hw.len
    rw [List.length_map] at lw
    refine for_list (xs := ws) (fun i σ' H' => ∃ y4 y5, σ' = [some v, some (.int level), some (.ref F), some t.refV, y4, y5] ∧ Kp [F] H4 H' ∧
        H' F = some (.lst ((addTo (t.base level) ((t.kids.take i).map fun c => c.free level).flatten).map kV)))
      ⟨none, none, rfl, Kp.refl _, s4 _ _ hF3⟩ ?_ ?_ ?_
    · rintro i σ' H' _ ⟨y4, y5, _, k', _⟩
      exact k'.seqL pF (SqL.of hp)
    · rintro i x σ' H' hi ⟨y4, y5, rfl, k', hF'⟩
      obtain ⟨d, hd, hx⟩ := hw.atV hi
      rw [List.getElem?_map] at hd
      cases hc : t.kids[i]? with
      | none => rw [hc] at hd; cases hd
      | some c =>
        rw [hc] at hd
        cases hd
        have cm : c ∈ t.kids := List.mem_of_getElem? hc
        have hF4 := s4 _ _ hF3
        have l1 := Row.ht_kid cm
        have l2 := Row.sz_kid cm
        refine ⟨_, rfl, _, rfl, x, c, level, rfl, Dp.kp k' (Lsts.one hF4) _ _ c.tu hx, by omega, by omega, fun H5 q5 s5 nq hq => ⟨q5, rfl, ⟨_, SqL.of hq⟩, ?_⟩⟩
        have hF5 := s5 _ _ hF'
        have qF : q5 ∉ [F] := fun m => by
          cases m with
          | head => rw [hF'] at nq; cases nq
          | tail _ m => cases m
        refine for_list (xs := (c.free level).map kV) (fun j σ' H' => ∃ y5, σ' = [some v, some (.int level), some (.ref F), some t.refV, some x, y5] ∧ Kp [F] H5 H' ∧
            H' F = some (.lst ((addTo (addTo (t.base level) ((t.kids.take i).map fun c => c.free level).flatten) ((c.free level).take j)).map kV)))
          ⟨_, rfl, Kp.refl _, hF5⟩ ?_ ?_ ?_
        · rintro j σ' H6 _ ⟨y5, _, k6, _⟩
          exact k6.seqL qF (SqL.of hq)
        · rintro j y σ' H6 hj ⟨y5, rfl, k6, hF6⟩
          rw [List.getElem?_map] at hj
          cases hz' : (c.free level)[j]? with
          | none => rw [hz'] at hj; cases hj
          | some z =>
            rw [hz'] at hj
            cases hj
            refine ⟨_, rfl, _, rfl, F, _, rfl, .inl (SqL.of hF6), flat_key z, flat_keys _, _, rfl, ?_⟩
            have nx : addTo (addTo (t.base level) ((t.kids.take i).map fun c => c.free level).flatten) ((c.free level).take (j + 1)) =
                if z ∈ addTo (addTo (t.base level) ((t.kids.take i).map fun c => c.free level).flatten) ((c.free level).take j) then
                  addTo (addTo (t.base level) ((t.kids.take i).map fun c => c.free level).flatten) ((c.free level).take j)
                else addTo (addTo (t.base level) ((t.kids.take i).map fun c => c.free level).flatten) ((c.free level).take j) ++ [z] := by
              rw [List.take_add_one, hz', addTo_app]
              rfl
            refine iteB (fun e => ?_) fun e => ?_
            · have e' : (!inV (kV z) ((addTo (addTo (t.base level) ((t.kids.take i).map fun c => c.free level).flatten) ((c.free level).take j)).map kV)) = true := e
              rw [inV_key, Bool.not_eq_true', decide_eq_false_iff_not] at e'
              rw [if_neg e'] at nx
              have la := addTo_len ((c.free level).take j) (addTo (t.base level) ((t.kids.take i).map fun c => c.free level).flatten)
              have lb := addTo_len ((t.kids.take i).map fun c => c.free level).flatten (t.base level)
              have lc : ((t.kids.take i).map fun c => c.free level).flatten.length ≤ 2 * t.sz := by
                refine Nat.le_trans (flat_len (m := t.sz) _ fun l hl => ?_) ?_
                · obtain ⟨c', hc', rfl⟩ := List.mem_map.mp hl
                  exact Nat.le_trans (free_len c' level) (Nat.le_of_lt (Row.sz_kid (List.mem_of_mem_take hc')))
                · have := t.len_kids
                  rw [List.length_map, List.length_take]
                  exact Nat.mul_le_mul_right _ (by omega)
              have ld := free_len c level
              have le : (t.base level).length ≤ 1 := by
                rw [Row.base_eq]
                refine Nat.le_trans (List.length_filter_le _ _) ?_
                cases t.ref <;> simp
              rw [List.length_take] at la
              refine ⟨_, rfl, .inl ⟨rfl, _, SqL.of hF6⟩, _, rfl, F, _, _, rfl, rfl, hF6, sz_lt (by rw [List.length_map]; omega), ?_⟩
              refine ⟨_, rfl, k6.trans (Kp.wr (.head _)), ?_⟩
              rw [upd_same, nx, List.map_append]
              rfl
            · have e' : (!inV (kV z) ((addTo (addTo (t.base level) ((t.kids.take i).map fun c => c.free level).flatten) ((c.free level).take j)).map kV)) = false := e
              rw [inV_key, Bool.not_eq_false', decide_eq_true_iff] at e'
              rw [if_pos e'] at nx
              refine ⟨_, rfl, k6, ?_⟩
              rw [nx]
              exact hF6
        · rintro σ' H6 ⟨y5, rfl, k6, hF6⟩
          refine ⟨_, _, rfl, (k'.trans (Kp.of s5)).trans k6, ?_⟩
          rw [hF6, List.length_map, List.take_length, ← addTo_app, List.take_add_one, hc, List.map_append, List.flatten_append]
          simp
    · rintro σ' H' ⟨y4, y5, rfl, k', hF'⟩
      refine ⟨_, rfl, q H' F (Same.kp (s03.trans s4) k' nF) nF ?_⟩
      rw [hF', lw, List.take_length, Row.free_eq]
theorem ok_free (T : Tx K w mg) : ∀ n : Nat, FnOk P w K mg base CX0 (n + 1) T.a_free_refs T.d_free_refs ["derivation", "level"] (spFree K n)
  | 0 => by
    have no : ∀ vs H Q E, ¬ spFree K 0 vs H Q E := fun vs H Q E h => by
      obtain ⟨v, t, level, _, _, hn, _⟩ := h
      have := t.ht_pos
      omega
    exact ⟨fun vs H Q E h => absurd h (no vs H Q E), fun A outer s H args us vs Q E _ _ _ _ h => absurd h (no vs H Q E)⟩
  | n + 1 => free_step T (ok_free T n)
end
end HA

/-! Names: a small letter, then small letters and digits, twelve signs at most. -/
namespace HA
open PySem PySem.Spec PyProof.Rows L2
def isLc (c : Nat) : Bool := decide (97 ≤ c) && decide (c ≤ 122)
def isLD (c : Nat) : Bool := isLc c || (decide (48 ≤ c) && decide (c ≤ 57))
theorem isLD_of {c : Nat} (h : isLc c = true) : isLD c = true := by unfold isLD; rw [h]; rfl
/-- the signs of a text -/
abbrev tl (x : Str) : List Nat := x.cps.toList
theorem tl_len (x : Str) : (tl x).length = x.length := Array.length_toList
theorem tl_app (x y : Str) : tl (x ++ y) = tl x ++ tl y := by
  show (x.cps ++ y.cps).toList = _
  rw [Array.toList_append]
theorem tl_inj {x y : Str} (h : tl x = tl y) : x = y := TL.ext_tl h
theorem tl_one (c : Nat) : tl ⟨#[c]⟩ = [c] := rfl
theorem tl_to (z : Str) (k : Nat) : tl (cutS z none (some (k : Int))) = (tl z).take k := by
  unfold cutS
  show (List.take _ _).toArray.toList = _
  rw [HT.sIx_nat, HT.sIx_none, List.drop_zero, Nat.sub_zero, List.toList_toArray]
  by_cases h : k ≤ z.length
  · rw [Nat.min_eq_left h]
  · rw [Nat.min_eq_right (by omega), List.take_of_length_le (by rw [tl_len] <;> omega), List.take_of_length_le (by rw [tl_len] <;> omega)]
theorem tl_from (z : Str) (k : Nat) : tl (cutS z (some (k : Int)) none) = (tl z).drop k := by
  unfold cutS
  show (List.take _ _).toArray.toList = _
  rw [HT.sIx_nat, HT.sIx_none, List.toList_toArray]
  by_cases h : k ≤ z.length
  · rw [Nat.min_eq_left h, List.take_of_length_le]
    rw [List.length_drop, tl_len] <;> omega
  · rw [Nat.min_eq_right (by omega), Nat.sub_self, List.take_zero, List.drop_eq_nil_of_le (by rw [tl_len] <;> omega)]
def NameOk (x : Str) : Prop := ∃ c r, tl x = c :: r ∧ isLc c = true ∧ (∀ d ∈ r, isLD d = true) ∧ r.length ≤ 11
theorem NameOk.len {x : Str} (h : NameOk x) : 1 ≤ x.length ∧ x.length ≤ 12 := by
  obtain ⟨c, r, e, _, _, l⟩ := h
  rw [← tl_len, e, List.length_cons]
  omega
theorem NameOk.all {x : Str} (h : NameOk x) : ∀ d ∈ tl x, isLD d = true := by
  obtain ⟨c, r, e, h1, h2, _⟩ := h
  rw [e]
  intro d hd
  rcases List.mem_cons.mp hd with rfl | hd
  · exact isLD_of h1
  · exact h2 d hd
def SIGNS : Str := "abcdefghijklmnopqrstuvwxyz0123456789"
theorem signs_len : SIGNS.length = 36 := by decide +kernel
theorem signs_at : ∀ d : Nat, d < 36 → ((tl SIGNS)[d]?.map isLD = some true ∧ (d < 26 → (tl SIGNS)[d]?.map isLc = some true)) := by decide +kernel
theorem sign_at {d : Int} (h0 : 0 ≤ d) (h1 : d < 36) : ∃ c, atI (tl SIGNS) d = some c ∧ isLD c = true ∧ (d < 26 → isLc c = true) := by
  obtain ⟨n, rfl⟩ := Int.eq_ofNat_of_zero_le h0
  obtain ⟨a, b⟩ := signs_at n (by omega)
  cases h : (tl SIGNS)[n]? with
  | none => rw [h] at a; cases a
  | some c =>
    rw [h] at a b
    exact ⟨c, atI_nat h, Option.some.inj a, fun hd => Option.some.inj (b (by omega))⟩
/-- one sign of a name exchanged, cut to twelve -/
theorem NameOk.swap {x : Str} {k c : Nat} (h : NameOk x) (hc : isLD c = true) :
    NameOk (cutS (cutS x none (some ((k + 1 : Nat) : Int)) ++ ⟨#[c]⟩ ++ cutS x (some ((k + 2 : Nat) : Int)) none) none (some ((12 : Nat) : Int))) := by
  obtain ⟨a, r, e, h1, h2, h3⟩ := h
  refine ⟨a, (r.take k ++ [c] ++ r.drop (k + 1)).take 11, ?_, h1, fun d hd => ?_, by rw [List.length_take]; omega⟩
  · rw [tl_to, tl_app, tl_app, tl_to, tl_from, e, tl_one]
    simp
  · have hd := List.mem_of_mem_take hd
    rcases List.mem_append.mp hd with hd | hd
    · rcases List.mem_append.mp hd with hd | hd
      · exact h2 d (List.mem_of_mem_take hd)
      · rw [List.mem_singleton.mp hd]; exact hc
    · exact h2 d (List.mem_of_mem_drop hd)
/-- the spare names -/
def spare (k : Nat) : Str := ("spare" : Str) ++ Str.ofString (toString ((k : Nat) : Int))
theorem tl_spare (k : Nat) : tl (spare k) = [115, 112, 97, 114, 101] ++ TL.numL k := by
  unfold spare
  rw [tl_app, show tl ("spare" : Str) = [115, 112, 97, 114, 101] by decide +kernel]
  exact congrArg _ (TL.tl_num k)
theorem spare_inj {i j : Nat} (h : spare i = spare j) : i = j := by
  have e : tl (spare i) = tl (spare j) := by rw [h]
  rw [tl_spare, tl_spare] at e
  exact TL.numL_inj (List.append_cancel_left e)
theorem spare_ok {k : Nat} (h : k < 10 ^ 7) : NameOk (spare k) := by
  refine ⟨115, [112, 97, 114, 101] ++ TL.numL k, by rw [tl_spare]; rfl, by decide, fun d hd => ?_, ?_⟩
  · rcases List.mem_append.mp hd with hd | hd
    · exact (by decide : ∀ d ∈ [112, 97, 114, 101], isLD d = true) d hd
    · have r : 48 ≤ d ∧ d ≤ 57 := TL.numL_digits k d hd
      unfold isLD
      rw [decide_eq_true r.1, decide_eq_true r.2]
      simp
  · have := TL.numL_len (n := k) (k := 7) (by decide) h
    rw [List.length_append]
    show 4 + _ ≤ 11
    omega
theorem pigeon {α : Type} [DecidableEq α] : ∀ {l t : List α}, l.Nodup → (∀ x ∈ l, x ∈ t) → l.length ≤ t.length
  | [], _, _, _ => Nat.zero_le _
  | x :: l, t, nd, h => by
    rw [List.nodup_cons] at nd
    have hx := h x (.head _)
    have := pigeon (l := l) (t := t.erase x) nd.2 fun y hy => by
      have hy' := h y (.tail _ hy)
      have ne : y ≠ x := fun e => nd.1 (e ▸ hy)
      exact (List.mem_erase_of_ne ne).mpr hy'
    rw [List.length_erase_of_mem hx] at this
    have := List.length_pos_of_mem hx
    rw [List.length_cons]
    omega
theorem spare_free {names : List Str} (h : ∀ j, j < names.length + 1 → spare j ∈ names) : False := by
  have nd : ((List.range (names.length + 1)).map spare).Nodup := by
    rw [List.Nodup, List.pairwise_map]
    exact (List.nodup_range).imp fun hne e => hne (spare_inj e)
  have := pigeon nd fun x hx => by
    obtain ⟨j, hj, rfl⟩ := List.mem_map.mp hx
    exact h j (List.mem_range.mp hj)
  rw [List.length_map, List.length_range] at this
  omega
/-- the search for a name that is not taken, after i turns -/
def Seek (names : List Str) (i : Nat) (x : Str) : Prop := NameOk x ∧ (x ∉ names ∨ i = 0 ∨ ∃ i', i = i' + 1 ∧ x = spare i' ∧ ∀ j, j < i' → spare j ∈ names)
theorem Seek.start {names : List Str} {x : Str} (h : NameOk x) : Seek names 0 x := ⟨h, .inr (.inl rfl)⟩
theorem Seek.keep {names : List Str} {i : Nat} {x : Str} (h : Seek names i x) (n : x ∉ names) : Seek names (i + 1) x := ⟨h.1, .inl n⟩
theorem Seek.next {names : List Str} {i : Nat} {x : Str} (h : Seek names i x) (m : x ∈ names) (hi : i < 10 ^ 7) : Seek names (i + 1) (spare i) := by
  refine ⟨spare_ok hi, .inr (.inr ⟨i, rfl, rfl, fun j hj => ?_⟩)⟩
  rcases h.2 with n | rfl | ⟨i', rfl, rfl, k⟩
  · exact absurd m n
  · omega
  · by_cases e : j = i'
    · rw [e]; exact m
    · exact k j (by omega)
theorem Seek.done {names : List Str} {x : Str} (h : Seek names (names.length + 1) x) : NameOk x ∧ x ∉ names := by
  refine ⟨h.1, fun m => ?_⟩
  rcases h.2 with n | e | ⟨i', e, rfl, k⟩
  · exact n m
  · omega
  · have e' : i' = names.length := by omega
    subst e'
    refine spare_free (names := names) fun j hj => ?_
    by_cases z : j = names.length
    · rw [z]; exact m
    · exact k j (by omega)
theorem inV_str (x : Str) (l : List Str) : inV (.str x) (l.map V.str) = decide (x ∈ l) := by
  unfold inV
  induction l with
  | nil => rfl
  | cons q l ih =>
    rw [List.map_cons, List.any_cons, ih]
    show ((q == x) || _) = _
    by_cases h : q = x
    · subst h; simp
    · have h' : ¬ x = q := fun z => h z.symm
      simp [h, h']
theorem flat_strs (l : List Str) : (l.map V.str).all flatV = true := by
  rw [List.all_eq_true]
  intro x h
  obtain ⟨r, _, rfl⟩ := List.mem_map.mp h
  rfl
theorem pool_ne {H : Hp} {l t : Addr} {names : List Str} (p : Pool H l) (h : H t = some (.lst (names.map V.str))) : l ≠ t := by
  obtain ⟨a, b, c, e, _⟩ := p
  refine ne_of e h fun z => ?_
  cases names with
  | nil => cases z
  | cons x r => cases z
end HA

/-! Numbers and names drawn. -/
namespace HA
open PySem PySem.Spec PyProof.Rows L2
theorem str_len (x y : Str) : (x ++ y).length = x.length + y.length := by
  rw [← tl_len, ← tl_len, ← tl_len, tl_app, List.length_append]
theorem log_small {i : Int} (h : i.natAbs < 2 ^ 64) : i.natAbs.log2 < 1920 := by
  by_cases z : i.natAbs = 0
  · rw [z]; decide
  · exact Nat.lt_of_lt_of_le ((Nat.log2_lt z).mpr h) (by decide)
section
variable {P : Program} {w : World} {K : PySem.W.Frag} {mg : Str → Option Value} {base : Heap}
def spCell (K : PySem.W.Frag) : Sp := fun vs H Q _ => ∃ (a : Addr) (ns : List Int) (k : Nat), vs = [.ref a, .int (k : Int)] ∧
  SqL K H a (ns.map V.int) ∧ ∀ i : Int, 0 ≤ i → Q (.int i) H
theorem ok_cell (T : Tx K w mg) {k : Nat} : FnOk P w K mg base CX0 (k + 1) T.a__law_cell T.d__law_cell ["script", "k"] (spCell K) := by
  refine T.F__law_cell.ok sc__law_cell (fun vs H Q E h => ?_) (fun cdv A outer s H vs Q E hr h => ?_)
  · obtain ⟨a, ns, k, rfl, _⟩ := h
    rfl
  obtain ⟨a, ns, k, rfl, hs, q⟩ := h
  refine ⟨_, (pss_cons (ps_if (pt_cmpR op_lt (pv 1) (pe_callB call_len_seq (by rfl) T.z_len (by decide +kernel) (pa_cons (pv 0) pa_nil)) (nomark _))
      (pss_one (ps_ret (pe_callB call_abs (by rfl) T.z_abs (by decide +kernel) (pa_cons (pe_ix ix_list (pv 0) (pv 1) (fun _ _ => rfl)) pa_nil))))
      pss_nil)
    (pss_one (ps_ret pe_int))), ?_⟩
  refine ⟨_, rfl, _, rfl, a, _, rfl, .inl hs, _, _, rfl, rfl, _, rfl, ?_⟩
  refine ite2 (c := decide ((k : Int) < ((ns.map V.int).length : Int)) = true) (fun h => ?_) fun h => q 0 (Int.le_refl 0)
  have h' := of_decide_eq_true h
  rw [List.length_map] at h'
  have h2 : k < ns.length := by omega
  refine ⟨.ref a, rfl, _, rfl, a, _, (k : Int), .int ns[k], rfl, rfl, hs, atI_nat ?_, _, rfl, q _ ?_⟩
  · rw [List.getElem?_map, List.getElem?_eq_getElem h2]; rfl
  · split <;> omega
def spPool (K : PySem.W.Frag) : Sp := fun vs H Q _ => ∃ (a : Addr) (ns : List Int) (k : Nat), vs = [.ref a, .int (k : Int)] ∧
  SqL K H a (ns.map V.int) ∧ ∀ H' p, Same H H' → H p = none → Pool H' p → Q (.ref p) H'
theorem ok_pool (T : Tx K w mg) {k : Nat} : FnOk P w K mg base CX0 (k + 2) T.a__law_pool T.d__law_pool ["script", "k"] (spPool K) := by
  have G__law_cell := ok_cell (P := P) (base := base) T (k := k)
  refine T.F__law_pool.ok sc__law_pool (fun vs H Q E h => ?_) (fun cdv A outer s H vs Q E hr h => ?_)
  · obtain ⟨a, ns, k, rfl, _⟩ := h
    rfl
  obtain ⟨a, ns, k, rfl, hs, q⟩ := h
  refine ⟨_, (pss_cons (ps_set (i := 2) sc__law_pool.nd rfl (Or.inl rfl) (pe_call (G__law_cell) hr (by rfl) T.g__law_cell T.k__law_cell T.b__law_cell .nil pass0 (pa_cons (pv 0) (pa_cons (pv 1) pa_nil))))
    (pss_cons (ps_if (pt_cmpR op_ge (pv 2) (pe_op op_pow pe_int pe_int) (nomark _))
      (pss_one (ps_ret (pe_lstN (pa_cons (pv 2) (pa_cons pe_int (pa_cons (pe_op op_mod (pe_callTy call_int1 (by rfl) T.z_int (by decide +kernel) (pa_cons (pv 2) pa_nil)) pe_int) pa_nil))))))
      pss_nil)
    (pss_one (ps_ret (pe_lstN (pa_cons pe_int (pa_cons pe_int (pa_cons (pv 2) pa_nil)))))))), ?_⟩
  refine ⟨_, rfl, _, rfl, a, ns, k, rfl, hs, fun i hi => ?_⟩
  refine ⟨_, rfl, _, _, rfl, rfl, ⟨by decide, by decide, by decide⟩, _, _, rfl, rfl, _, rfl, ?_⟩
  refine iteB (fun h => ?_) fun h => ?_
  · refine ⟨_, rfl, _, rfl, .inl ⟨i, rfl, _, _, rfl, rfl, (show (0 : Int) < 1000003 by decide), (by show 3 ≤ 1000; decide), fun H' p s1 np hp => q H' p s1 np ⟨_, _, _, hp, hi, by decide, ?_⟩⟩⟩
    exact Int.emod_nonneg _ (by decide)
  · exact ⟨_, rfl, (by show 3 ≤ 1000; decide), fun H' p s1 np hp => q H' p s1 np ⟨_, _, _, hp, by decide, by decide, hi⟩⟩
def spNext : Sp := fun vs H Q _ => ∃ (l : Addr) (m : Int), vs = [.ref l, .int m] ∧ Pool H l ∧ 0 < m ∧ m < 1073741824 ∧
  ∀ d H', 0 ≤ d → d < m → Kp [l] H H' → Pool H' l → Q (.int d) H'
theorem ok_next (T : Tx K w mg) {k : Nat} : FnOk P w K mg base CX0 (k + 1) T.a__law_next T.d__law_next ["pool", "many"] spNext := by
  refine T.F__law_next.ok sc__law_next (fun vs H Q E h => ?_) (fun cdv A outer s H vs Q E hr h => ?_)
  · obtain ⟨l, m, rfl, _⟩ := h
    rfl
  obtain ⟨l, m, rfl, ⟨a, b, c, hp, ha, hb, hc⟩, h0, h1, q⟩ := h
  refine ⟨_, (pss_cons (ps_if (pt_cmpR op_gt (pe_ix ix_list (pv 0) pe_int (fun _ _ => rfl)) pe_int (nomark _))
      (pss_cons (ps_set (i := 2) sc__law_next.nd rfl (Or.inl rfl) (pe_op op_mod (pe_callTy call_int1 (by rfl) T.z_int (by decide +kernel) (pa_cons (pe_ix ix_list (pv 0) pe_int (fun _ _ => rfl)) pa_nil)) (pv 1)))
      (pss_cons (ps_asg (pe_op op_fdiv (pe_ix ix_list (pv 0) pe_int (fun _ _ => rfl)) (pv 1)) (pg_sub (pv 0) pe_int set_list))
      (pss_one (ps_ret (pv 2)))))
      pss_nil)
    (pss_cons (ps_asg (pe_op op_add (pe_ix ix_list (pv 0) pe_int (fun _ _ => rfl)) pe_int) (pg_sub (pv 0) pe_int set_list))
    (pss_cons (ps_set (i := 3) sc__law_next.nd rfl (Or.inl rfl) (pe_op op_mod (pe_callTy call_int1 (by rfl) T.z_int (by decide +kernel) (pa_cons (pe_op op_add (pe_op op_add (pe_ix ix_list (pv 0) pe_int (fun _ _ => rfl)) (pe_op op_mul pe_int (pe_ix ix_list (pv 0) pe_int (fun _ _ => rfl)))) pe_int) pa_nil)) pe_int))
    (pss_cons (ps_set (i := 3) sc__law_next.nd rfl (Or.inl rfl) (pe_op op_mod (pe_callTy call_int1 (by rfl) T.z_int (by decide +kernel) (pa_cons (pe_op op_mul (pv 3) (pe_op op_add (pv 3) pe_int)) pa_nil)) pe_int))
    (pss_cons (ps_set (i := 3) sc__law_next.nd rfl (Or.inl rfl) (pe_op op_mod (pe_callTy call_int1 (by rfl) T.z_int (by decide +kernel) (pa_cons (pe_op op_add (pe_op op_mul (pv 3) (pe_op op_add (pv 3) pe_int)) (pe_op op_mul pe_int (pe_ix ix_list (pv 0) pe_int (fun _ _ => rfl)))) pa_nil)) pe_int))
    (pss_one (ps_ret (pe_op op_mod (pe_callTy call_int1 (by rfl) T.z_int (by decide +kernel) (pa_cons (pe_op op_fdiv (pv 3) pe_int) pa_nil)) (pv 1))))))))), ?_⟩
  refine ⟨_, rfl, l, _, 0, .int a, rfl, rfl, SqL.of hp, atI_at (j := 0) rfl rfl, a, 0, rfl, rfl, _, rfl, ?_⟩
  refine ite2 (c := decide (0 < a) = true) (fun h => ?_) fun h => ?_
  · refine ⟨_, rfl, l, _, 0, .int a, rfl, rfl, SqL.of hp, atI_at (j := 0) rfl rfl, .inl ⟨a, rfl, _, rfl, a, m, rfl, rfl, h0, ?_⟩⟩
    refine ⟨_, rfl, l, _, 0, .int a, rfl, rfl, SqL.of hp, atI_at (j := 0) rfl rfl, _, rfl, a, m, rfl, rfl, ⟨h0, h1⟩, _, rfl, l, _, 0, 0, rfl, rfl, hp, rfl, ?_⟩
    exact ⟨_, rfl, q _ _ (Int.emod_nonneg _ (by omega)) (Int.emod_lt_of_pos _ h0) (Kp.wr (.head _)) ⟨_, _, _, upd_same, Int.ediv_nonneg ha (by omega), hb, hc⟩⟩
  · refine ⟨_, rfl, l, _, 1, .int b, rfl, rfl, SqL.of hp, atI_at (j := 1) rfl rfl, _, _, rfl, rfl, _, rfl, l, _, 1, 1, rfl, rfl, hp, rfl, ?_⟩
    have k1 : Kp [l] H (upd H l (.lst ([.int a, .int b, .int c].set 1 (.int (b + 1))))) := Kp.wr (.head _)
    have hp1 : upd H l (.lst ([.int a, .int b, .int c].set 1 (.int (b + 1)))) l = some (.lst [.int a, .int (b + 1), .int c]) := upd_same
    revert hp1 k1
    generalize upd H l (.lst ([.int a, .int b, .int c].set 1 (.int (b + 1)))) = H1
    intro k1 hp1
    refine ⟨_, rfl, l, _, 2, .int c, rfl, rfl, SqL.of hp1, atI_at (j := 2) rfl rfl, _, rfl, l, _, 1, .int (b + 1), rfl, rfl, SqL.of hp1, atI_at (j := 1) rfl rfl,
      _, _, rfl, rfl, .inl ⟨by decide, by decide⟩, _, _, rfl, rfl, _, _, rfl, rfl, .inl ⟨_, rfl, _, _, rfl, rfl, (show (0 : Int) < 2147483647 by decide), ?_⟩⟩
    have x0 := Int.emod_nonneg (c + 7919 * (b + 1) + 13) (show (2147483647 : Int) ≠ 0 by decide)
    have x1 := Int.emod_lt_of_pos (c + 7919 * (b + 1) + 13) (show (0 : Int) < 2147483647 by decide)
    revert x0 x1
    generalize (c + 7919 * (b + 1) + 13) % 2147483647 = x
    intro x0 x1
    refine ⟨_, rfl, _, rfl, _, _, rfl, rfl, _, _, rfl, rfl, .inl ⟨by omega, by omega⟩, .inl ⟨_, rfl, _, _, rfl, rfl, (show (0 : Int) < 2147483629 by decide), ?_⟩⟩
    have y0 := Int.emod_nonneg (x * (x + 48271)) (show (2147483629 : Int) ≠ 0 by decide)
    have y1 := Int.emod_lt_of_pos (x * (x + 48271)) (show (0 : Int) < 2147483629 by decide)
    revert y0 y1
    generalize x * (x + 48271) % 2147483629 = y
    intro y0 y1
    refine ⟨_, rfl, _, rfl, _, _, rfl, rfl, _, _, rfl, rfl, .inl ⟨by omega, by omega⟩, _, rfl, l, _, 1, .int (b + 1), rfl, rfl, SqL.of hp1, atI_at (j := 1) rfl rfl,
      _, _, rfl, rfl, .inl ⟨by decide, by decide⟩, _, _, rfl, rfl, .inl ⟨_, rfl, _, _, rfl, rfl, (show (0 : Int) < 2147483647 by decide), ?_⟩⟩
    have z0 := Int.emod_nonneg (y * (y + 69621) + 31 * (b + 1)) (show (2147483647 : Int) ≠ 0 by decide)
    revert z0
    generalize (y * (y + 69621) + 31 * (b + 1)) % 2147483647 = z
    intro z0
    refine ⟨_, rfl, _, _, rfl, rfl, ⟨by decide, by decide⟩, .inl ⟨_, rfl, _, rfl, _, _, rfl, rfl, h0, ?_⟩⟩
    exact q _ _ (Int.emod_nonneg _ (by omega)) (Int.emod_lt_of_pos _ h0) k1 ⟨a, b + 1, c, hp1, ha, by omega, hc⟩
/-- a name is drawn and put behind the taken ones -/
def spNewName : Sp := fun vs H Q _ => ∃ (l t : Addr) (names : List Str), vs = [.ref l, .ref t] ∧ Pool H l ∧ H t = some (.lst (names.map V.str)) ∧
  (∀ x ∈ names, NameOk x) ∧ names.length ≤ 1000 ∧
  ∀ x H', NameOk x → x ∉ names → Kp [l, t] H H' → Pool H' l → H' t = some (.lst ((names ++ [x]).map V.str)) → Q (.str x) H'
theorem ok_new_name (T : Tx K w mg) {k : Nat} : FnOk P w K mg base CX0 (k + 2) T.a__law_new_name T.d__law_new_name ["pool", "taken"] spNewName := by
  have G__law_next := ok_next (P := P) (base := base) T (k := k)
  refine T.F__law_new_name.ok sc__law_new_name (fun vs H Q E h => ?_) (fun cdv A outer s H vs Q E hr h => ?_)
  · obtain ⟨l, t, names, rfl, _⟩ := h
    rfl
  obtain ⟨l, t, names, rfl, hp, ht, ok, hz, q⟩ := h
  have nlt := pool_ne hp ht
  have ntl : t ∉ [l] := fun m => by
    cases m with
    | head => exact nlt rfl
    | tail _ m => cases m
  refine ⟨_, (pss_cons (ps_set (i := 2) sc__law_new_name.nd rfl (Or.inl rfl) pe_str)
    (pss_cons (ps_set (i := 3) sc__law_new_name.nd rfl (Or.inl rfl) (pe_call (G__law_next) hr (by rfl) T.g__law_next T.k__law_next T.b__law_next .nil pass0 (pa_cons (pv 0) (pa_cons pe_int pa_nil))))
    (C8.pss_cut (ps_if (PW.pt (pw_and (pt_cmpR op_eq (pv 3) pe_int (nomark _)) (pw_and1 (pt_truth (pv 1) (by intro _; rfl)))))
      (pss_cons (ps_set (i := 4) sc__law_new_name.nd rfl (Or.inl rfl) (pe_ix ix_list (pv 1) (pe_call (G__law_next) hr (by rfl) T.g__law_next T.k__law_next T.b__law_next .nil pass0 (pa_cons (pv 0) (pa_cons (pe_callB call_len_seq (by rfl) T.z_len (by decide +kernel) (pa_cons (pv 1) pa_nil)) pa_nil))) (fun _ _ => rfl)))
      (pss_cons (ps_set (i := 5) sc__law_new_name.nd rfl (Or.inl rfl) (pe_op op_add pe_int (pe_call (G__law_next) hr (by rfl) T.g__law_next T.k__law_next T.b__law_next .nil pass0 (pa_cons (pv 0) (pa_cons (pe_callB call_len_str (by rfl) T.z_len (by decide +kernel) (pa_cons (pv 4) pa_nil)) pa_nil)))))
      (pss_cons (ps_set (i := 6) sc__law_new_name.nd rfl (Or.inl rfl) (pe_op op_add_str (pe_op op_add_str (pe_slice sl_str (pv 4) po_none (po_some (pv 5))) (pe_ix ix_str (pv 2) (pe_call (G__law_next) hr (by rfl) T.g__law_next T.k__law_next T.b__law_next .nil pass0 (pa_cons (pv 0) (pa_cons pe_int pa_nil))) (fun _ _ => rfl))) (pe_slice sl_str (pv 4) (po_some (pe_op op_add (pv 5) pe_int)) po_none)))
      (pss_one (ps_set (i := 6) sc__law_new_name.nd rfl (Or.inl rfl) (pe_slice sl_str (pv 6) po_none (po_some pe_int)))))))
      (pss_cons (ps_set (i := 6) sc__law_new_name.nd rfl (Or.inl rfl) (pe_ix ix_str (pv 2) (pe_call (G__law_next) hr (by rfl) T.g__law_next T.k__law_next T.b__law_next .nil pass0 (pa_cons (pv 0) (pa_cons pe_int pa_nil))) (fun _ _ => rfl)))
      (pss_one (ps_for PassesOwn.never rfl (pi_range1 (by rfl) T.z_range (pa_cons (pe_ix ix_list (pe_lstN (pa_cons pe_int (pa_cons pe_int (pa_cons pe_int (pa_cons pe_int pa_nil))))) (pv 3) (fun _ _ => rfl)) pa_nil)) (pg_name (i := 7) sc__law_new_name.nd rfl (Or.inl rfl))
        (pss_one (ps_set (i := 6) sc__law_new_name.nd rfl (Or.inl rfl) (pe_op op_add_str (pv 6) (pe_ix ix_str (pv 2) (pe_call (G__law_next) hr (by rfl) T.g__law_next T.k__law_next T.b__law_next .nil pass0 (pa_cons (pv 0) (pa_cons pe_int pa_nil))) (fun _ _ => rfl)))))))))
    (pss_cons (ps_for PassesOwn.never rfl (pi_range1 (by rfl) T.z_range (pa_cons (pe_op op_add (pe_callB call_len_seq (by rfl) T.z_len (by decide +kernel) (pa_cons (pv 1) pa_nil)) pe_int) pa_nil)) (pg_name (i := 7) sc__law_new_name.nd rfl (Or.inl rfl))
      (pss_one (ps_if (pt_cmpR op_in_seq (pv 6) (pv 1) (by rfl))
        (pss_one (ps_set (i := 6) sc__law_new_name.nd rfl (Or.inl rfl) (pe_op op_add_str pe_str (pe_callTy call_str_int (by rfl) T.z_str (by decide +kernel) (pa_cons (pv 7) pa_nil)))))
        pss_nil)))
    (pss_cons (ps_expr (pe_bm PySem.F.plainAttrs_list PySem.F.slot_list_append PySem.F.type_list_append mt_append (pv 1) (pa_cons (pv 6) pa_nil)))
    (pss_one (ps_ret (pv 6)))))))), ?_⟩
  -- signs; pick
  refine ⟨_, rfl, l, 4, rfl, hp, by decide, by decide, fun d H1 d0 d1 k1 p1 => ?_⟩
  have ht1 := k1 _ _ ntl ht
  -- the first name
  refine ⟨fun σ' H' => ∃ y4 y5 y7 x, σ' = [some (.ref l), some (.ref t), some (.str SIGNS), some (.int d), y4, y5, some (.str x), y7] ∧ NameOk x ∧ Kp [l] H1 H' ∧ Pool H' l, ?_, ?_⟩
  · refine ⟨_, rfl, rfl, _, rfl, ?_⟩
    refine iteB (fun e1 => ⟨_, rfl, _, .inl ⟨_, SqL.of ht1, rfl⟩, iteB (fun e2 => ?_) (fun e2 => ?_)⟩) (fun e1 => iteF ?_)
    · have hn : 0 < names.length := by
        cases names with
        | nil => cases e2
        | cons x r => exact Nat.succ_pos _
      refine ⟨_, rfl, _, rfl, _, rfl, t, _, rfl, .inl (SqL.of ht1), l, _, rfl, p1, by rw [List.length_map]; omega, by rw [List.length_map]; omega, fun e H2 e0 e1' k2 p2 => ?_⟩
      obtain ⟨n, rfl⟩ := Int.eq_ofNat_of_zero_le e0
      rw [List.length_map] at e1'
      have hnl : n < names.length := by omega
      have ho : NameOk names[n] := ok _ (List.getElem_mem hnl)
      have hol := ho.len
      refine ⟨t, _, (n : Int), .str names[n], rfl, rfl, SqL.of (k2 _ _ ntl ht1), atI_nat ?_, ?_⟩
      · rw [List.getElem?_map, List.getElem?_eq_getElem hnl]; rfl
      generalize names[n] = old at ho hol
      refine ⟨_, rfl, _, rfl, old, rfl, sz_le (by omega), l, _, rfl, p2, by omega, by omega, fun f H3 f0 f1 k3 p3 => ?_⟩
      obtain ⟨m, rfl⟩ := Int.eq_ofNat_of_zero_le f0
      refine ⟨_, _, rfl, rfl, ?_⟩
      have c1 := cutS_length old none (some (1 + (m : Int)))
      have c2 := cutS_length old (some (1 + (m : Int) + 1)) none
      refine ⟨_, rfl, _, rfl, _, rfl, old, rfl, sz_le (by omega), _, rfl, _, rfl, l, 36, rfl, p3, by decide, by decide, fun g H4 g0 g1 k4 p4 => ?_⟩
      obtain ⟨c, hc, hld, _⟩ := sign_at g0 g1
      have hs := NameOk.swap (k := m) ho hld
      rw [show ((m + 1 : Nat) : Int) = 1 + (m : Int) by omega, show ((m + 2 : Nat) : Int) = 1 + (m : Int) + 1 by omega] at hs
      have l1 : (⟨#[c]⟩ : Str).length = 1 := rfl
      have l3 := str_len (cutS old none (some (1 + (m : Int)))) ⟨#[c]⟩
      have l4 := str_len (cutS old none (some (1 + (m : Int))) ++ ⟨#[c]⟩) (cutS old (some (1 + (m : Int) + 1)) none)
      refine ⟨SIGNS, g, c, rfl, rfl, sz_le (by rw [signs_len]; decide), hc, _, _, rfl, rfl, sz_le (by omega), ?_⟩
      refine ⟨_, rfl, _, rfl, _, _, rfl, rfl, _, rfl, old, rfl, sz_le (by omega), _, _, rfl, rfl, sz_le (by omega), ?_⟩
      refine ⟨_, rfl, 12, rfl, _, rfl, sz_le (by omega), ?_⟩
      exact ⟨_, _, _, _, rfl, hs, ((k2.trans k3).trans k4), p4⟩
    all_goals
      refine ⟨_, rfl, _, rfl, l, 26, rfl, p1, by decide, by decide, fun g H2 g0 g1 k2 p2 => ?_⟩
      obtain ⟨c, hc, hld, hlc⟩ := sign_at g0 (by omega)
      refine ⟨SIGNS, g, c, rfl, rfl, sz_le (by rw [signs_len]; decide), hc, ?_⟩
      refine ⟨by decide, fun H3 b s3 nb hb => ?_⟩
      have cn : ∃ cnt : Nat, cnt ≤ 11 ∧ atI [V.int 0, V.int 1, V.int 2, V.int 11] d = some (.int (cnt : Int)) := by
        have : d = 0 ∨ d = 1 ∨ d = 2 ∨ d = 3 := by omega
        rcases this with rfl | rfl | rfl | rfl
        · exact ⟨0, by decide, rfl⟩
        · exact ⟨1, by decide, rfl⟩
        · exact ⟨2, by decide, rfl⟩
        · exact ⟨11, by decide, rfl⟩
      obtain ⟨cnt, hcnt, hat⟩ := cn
      refine ⟨_, rfl, b, _, d, _, rfl, rfl, SqL.of hb, hat, (cnt : Int), rfl, by omega, by omega, ?_⟩
      refine for_range (lo := 0) (n := (cnt : Int).toNat) (fun i σ' H' => ∃ y7 x, σ' = [some (.ref l), some (.ref t), some (.str SIGNS), some (.int d), none, none, some (.str x), y7] ∧
          (∃ c r, tl x = c :: r ∧ isLc c = true ∧ (∀ z ∈ r, isLD z = true) ∧ r.length = i) ∧ Kp [l] H1 H' ∧ Pool H' l) ?_ ?_ ?_
      · exact ⟨_, _, rfl, ⟨c, [], rfl, hlc g1, (fun z hz => by cases hz), rfl⟩, k2.trans (Kp.of s3), p2.kp (S := []) (by simp) (Kp.of s3)⟩
      · rintro i σ' H' hi ⟨y7, x, rfl, ⟨c', r, hx, h1, h2, h3⟩, k', p'⟩
        have lx : x.length = i + 1 := by rw [← tl_len, hx, List.length_cons, h3]
        refine ⟨_, rfl, _, rfl, _, rfl, l, 36, rfl, p', by decide, by decide, fun g H4 g0 g1 k4 p4 => ?_⟩
        obtain ⟨c4, hc4, hld4, _⟩ := sign_at g0 g1
        have l1 : (⟨#[c4]⟩ : Str).length = 1 := rfl
        refine ⟨SIGNS, g, c4, rfl, rfl, sz_le (by rw [signs_len]; decide), hc4, _, _, rfl, rfl, sz_le (by omega), ?_⟩
        refine ⟨_, _, rfl, ⟨c', r ++ [c4], ?_, h1, fun z hz => ?_, ?_⟩, k'.trans k4, p4⟩
        · rw [tl_app, hx]; rfl
        · rcases List.mem_append.mp hz with hz | hz
          · exact h2 z hz
          · rw [List.mem_singleton.mp hz]; exact hld4
        · rw [List.length_append, h3]; rfl
      · rintro σ' H' ⟨y7, x, rfl, ⟨c', r, hx, h1, h2, h3⟩, k', p'⟩
        exact ⟨_, _, _, _, rfl, ⟨c', r, hx, h1, h2, by omega⟩, k', p'⟩
  · rintro σ' H2 ⟨y4, y5, y7, x, rfl, hx, k2, p2⟩
    have ht2 := k2 _ _ ntl ht1
    refine ⟨_, rfl, t, _, rfl, .inl (SqL.of ht2), _, _, rfl, rfl, _, rfl, by rw [List.length_map]; omega, by rw [List.length_map]; omega, ?_⟩
    refine for_range (lo := 0) (n := (((names.map V.str).length : Int) + 1).toNat) (fun i σ' H' => ∃ y7 x, σ' = [some (.ref l), some (.ref t), some (.str SIGNS), some (.int d), y4, y5, some (.str x), y7] ∧
        Seek names i x ∧ H' = H2) ⟨_, _, rfl, Seek.start hx, rfl⟩ ?_ ?_
    · rintro i σ' H' hi ⟨y7, x, rfl, sk, rfl⟩
      rw [List.length_map] at hi
      refine ⟨_, rfl, _, rfl, t, _, rfl, .inl (SqL.of ht2), rfl, flat_strs _, _, rfl, iteB (fun e => ?_) fun e => ?_⟩
      · have e' : inV (.str x) (names.map V.str) = true := e
        rw [inV_str, decide_eq_true_iff] at e'
        have nx := sk.next e' (by omega)
        have hl := nx.1.len
        rw [show spare i = ("spare" : Str) ++ Str.ofString (toString (0 + (i : Int))) by rw [Int.zero_add]; rfl] at nx hl
        rw [str_len] at hl
        refine ⟨_, rfl, _, rfl, log_small (by omega), _, _, rfl, rfl, sz_le (by omega), ?_⟩
        exact ⟨_, _, rfl, nx, rfl⟩
      · have e' : inV (.str x) (names.map V.str) = false := e
        rw [inV_str, decide_eq_false_iff_not] at e'
        exact ⟨_, _, rfl, sk.keep e', rfl⟩
    · rintro σ' H' ⟨y7, x, rfl, sk, rfl⟩
      rw [List.length_map, show ((names.length : Int) + 1).toNat = names.length + 1 by omega] at sk
      obtain ⟨hx, hn⟩ := sk.done
      refine ⟨_, rfl, .inl ⟨rfl, _, SqL.of ht2⟩, _, rfl, t, _, _, rfl, rfl, ht2, sz_lt (by rw [List.length_map]; omega), _, rfl, q x _ hx hn ?_ ?_ ?_⟩
      · exact ((k1.trans k2).mono (by simp)).trans (Kp.wr (by simp))
      · exact p2.kp (S := [t]) (by simp; exact nlt) (Kp.wr (.head _))
      · rw [upd_same, List.map_append]; rfl
end
end HA

/-! The law's own walk over rows. -/
namespace HA
open PySem PySem.Spec PyProof.Rows L2
def rowNames : List V := [.str "own", .str "take", .str "offer", .str "pick", .str "pay", .str "make", .str "open", .str "cut", .str "cite"]
/-- what stands in a row: a number, a text, a tuple that begins with one -/
inductive ItemOk : PyData → Prop
  | int (i : Int) : ItemOk (.int i)
  | str (x : Str) : ItemOk (.str x)
  | tupI (i : Int) (ds : List PyData) : ItemOk (.tuple (.int i :: ds))
  | tupS (x : Str) (ds : List PyData) : ItemOk (.tuple (.str x :: ds))
def rowD : PyData → Bool
  | .tuple (.str x :: _) => inV (.str x) rowNames
  | _ => false
theorem item_key (r : Key) : ItemOk (kD r) ∧ rowD (kD r) = false := by
  cases r with
  | inl i => exact ⟨.int i, rfl⟩
  | inr x => exact ⟨.str x, rfl⟩
theorem item_kd (k : Kd) : ItemOk k.d ∧ rowD k.d = false := by
  cases k with
  | once => exact ⟨.str _, rfl⟩
  | st n k => exact ⟨.tupI _ _, rfl⟩
theorem item_sn (s : Sn) : ItemOk s.d ∧ rowD s.d = false := by
  cases s with
  | word x => exact ⟨.tupS _ _, by show inV (.str "word") rowNames = false; decide +kernel⟩
  | menu a b => exact ⟨.tupS _ _, by show inV (.str "menu") rowNames = false; decide +kernel⟩
  | trade k a b => exact ⟨.tupS _ _, by show inV (.str "trade") rowNames = false; decide +kernel⟩
theorem all_nil {p : PyData → Prop} : ∀ x ∈ ([] : List PyData), p x := fun x h => by cases h
theorem all_cons {p : PyData → Prop} {d : PyData} {l : List PyData} (h : p d) (r : ∀ x ∈ l, p x) : ∀ x ∈ d :: l, p x := fun x m => by
  rcases List.mem_cons.mp m with rfl | m
  · exact h
  · exact r x m
theorem item_str (x : Str) : ItemOk (.str x) ∧ rowD (.str x) = false := ⟨.str x, rfl⟩
theorem item_int (i : Int) : ItemOk (.int i) ∧ rowD (.int i) = false := ⟨.int i, rfl⟩
theorem item_mid (t : Row) : ∀ d ∈ t.mid, ItemOk d ∧ rowD d = false := by
  cases t with
  | own r => exact all_cons (item_key r) all_nil
  | cite x => exact all_cons (item_str x) all_nil
  | take b => exact all_nil
  | pick r s b => exact all_cons (item_key r) (all_cons (item_str s) all_nil)
  | make x i b => exact all_cons (item_str x) (all_cons (item_int i) all_nil)
  | opn r x i b => exact all_cons (item_key r) (all_cons (item_str x) (all_cons (item_int i) all_nil))
  | offer a b => exact all_nil
  | pay r k a b => exact all_cons (item_key r) (all_cons (item_kd k) all_nil)
  | cut k s a b => exact all_cons (item_kd k) (all_cons (item_sn s) all_nil)
theorem item_row (t : Row) : ItemOk t.d ∧ rowD t.d = true := by
  rw [Row.d_eq]
  refine ⟨.tupS _ _, ?_⟩
  show inV (.str t.name) rowNames = true
  cases t <;> (dsimp only [Row.name]; decide +kernel)
def Row.midMv (old new : Int) (ρ : Ren) (t : Row) : List PyData := match t.ref, t.mid with
  | some r, _ :: m => kD (mvRef old new ρ r) :: m
  | _, m => m
theorem Row.mv_items (old new : Int) (ρ : Ren) (t : Row) : (t.mv old new ρ).d = .tuple (.str t.name :: (t.midMv old new ρ ++ (t.kids.map (mv old new ρ)).map d)) := by
  cases t <;> rfl
theorem Row.midMv_len (old new : Int) (ρ : Ren) (t : Row) : (t.midMv old new ρ).length = t.mid.length := by
  cases t <;> rfl
/-- the item behind the name that is no kid -/
theorem Row.mid_at {old new : Int} {ρ : Ren} {t : Row} {j : Nat} {d : PyData} (h : t.mid[j]? = some d) (n : ¬ (j = 0 ∧ t.ref.isSome = true)) : (t.midMv old new ρ)[j]? = some d := by
  unfold Row.midMv
  cases hr : t.ref with
  | none => exact h
  | some r =>
    obtain ⟨m, hm⟩ := Row.mid_some hr
    rw [hm] at h ⊢
    cases j with
    | zero => exact absurd ⟨rfl, by rw [hr]; rfl⟩ n
    | succ j => exact h
theorem tuAll_take : ∀ (n : Nat) (l : List PyData), tuAll l = true → tuAll (l.take n) = true
  | 0, _, _ => rfl
  | _ + 1, [], _ => rfl
  | n + 1, x :: l, h => by
    have h' : (tu x && tuAll l) = true := h
    rw [Bool.and_eq_true] at h'
    show (tu x && tuAll (l.take n)) = true
    rw [h'.1, tuAll_take n l h'.2]
    rfl
theorem tuAll_at : ∀ (i : Nat) (l : List PyData) (d : PyData), tuAll l = true → l[i]? = some d → tu d = true
  | _, [], _, _, e => by cases e
  | 0, x :: l, d, h, e => by
    have h' : (tu x && tuAll l) = true := h
    rw [Bool.and_eq_true] at h'
    cases e
    exact h'.1
  | i + 1, x :: l, d, h, e => by
    have h' : (tu x && tuAll l) = true := h
    rw [Bool.and_eq_true] at h'
    exact tuAll_at i l d h'.2 e
section
variable {P : Program} {w : World} {K : PySem.W.Frag} {mg : Str → Option Value} {base : Heap}
def spRow (K : PySem.W.Frag) : Sp := fun vs H Q _ => ∃ (v : V) (d : PyData), vs = [v] ∧ Dp K H v d ∧ ItemOk d ∧
  ∀ H', Same H H' → Q (.bl (rowD d)) H'
theorem ok_row (T : Tx K w mg) {k : Nat} : FnOk P w K mg base CX0 (k + 1) T.a__law_row T.d__law_row ["item"] (spRow K) := by
  refine T.F__law_row.ok sc__law_row (fun vs H Q E h => ?_) (fun cdv A outer s H vs Q E hr h => ?_)
  · obtain ⟨v, d, rfl, _⟩ := h
    rfl
  obtain ⟨v, d, rfl, hd, ok, q⟩ := h
  refine ⟨_, (pss_cons (ps_set (i := 1) sc__law_row.nd rfl (Or.inl rfl) (pe_tupN (pa_cons pe_str (pa_cons pe_str (pa_cons pe_str (pa_cons pe_str (pa_cons pe_str (pa_cons pe_str (pa_cons pe_str (pa_cons pe_str (pa_cons pe_str pa_nil)))))))))))
    (pss_one (ps_ret (pe_and (pe_callB call_isi (by rfl) T.z_isinstance (by decide +kernel) (pa_cons (pv 0) (pa_cons (pe_bltn (v := .ty "tuple") (by rfl) T.z_tuple (by decide +kernel) rfl) pa_nil))) (pe_and (pe_cmpR op_gt (pe_callB call_len_seq (by rfl) T.z_len (by decide +kernel) (pa_cons (pv 0) pa_nil)) pe_int (nomark _)) (pe_one (pe_cmpR op_in_seq (pe_ix ix_tup (pv 0) pe_int (fun _ _ => rfl)) (pv 1) (by rfl)))))))), ?_⟩
  refine ⟨by decide, fun H1 p s1 np hp => ?_⟩
  have q1 := q H1 s1
  cases ok with
  | int i =>
    obtain rfl := hd.int_inv
    exact ⟨_, rfl, _, _, _, _, _, rfl, .ty _, ty_int i, kit_it, _, rfl, iteF q1⟩
  | str x =>
    obtain rfl := hd.str_inv
    exact ⟨_, rfl, _, _, _, _, _, rfl, .ty _, ty_str x, kit_st, _, rfl, iteF q1⟩
  | tupI i ds =>
    obtain ⟨a, xs, rfl, hs, hx⟩ := hd.tup_inv
    cases hx with
    | cons h1 h2 =>
      obtain rfl := h1.int_inv
      refine ⟨_, rfl, _, _, _, _, _, rfl, .ty _, ty_tup (s1.seqT hs), kit_tt, _, rfl, iteT ?_⟩
      refine ⟨_, rfl, a, _, rfl, .inr (s1.seqT hs), _, _, rfl, rfl, _, rfl, ?_⟩
      refine ite2 (fun _ => ?_) fun z => absurd (decide_eq_true (show (0 : Int) < (((V.int i :: _ : List V).length : Nat) : Int) by rw [List.length_cons]; omega)) z
      exact ⟨_, rfl, a, _, 0, .int i, rfl, rfl, s1.seqT hs, atI_at (j := 0) rfl rfl, _, rfl, p, _, rfl, .inr (SqT.of hp), rfl, rfl, q1⟩
  | tupS x ds =>
    obtain ⟨a, xs, rfl, hs, hx⟩ := hd.tup_inv
    cases hx with
    | cons h1 h2 =>
      obtain rfl := h1.str_inv
      refine ⟨_, rfl, _, _, _, _, _, rfl, .ty _, ty_tup (s1.seqT hs), kit_tt, _, rfl, iteT ?_⟩
      refine ⟨_, rfl, a, _, rfl, .inr (s1.seqT hs), _, _, rfl, rfl, _, rfl, ?_⟩
      refine ite2 (fun _ => ?_) fun z => absurd (decide_eq_true (show (0 : Int) < (((V.str x :: _ : List V).length : Nat) : Int) by rw [List.length_cons]; omega)) z
      exact ⟨_, rfl, a, _, 0, .str x, rfl, rfl, s1.seqT hs, atI_at (j := 0) rfl rfl, _, rfl, p, _, rfl, .inr (SqT.of hp), rfl, rfl, q1⟩
theorem lmoved_step (T : Tx K w mg) {n : Nat} (G__law_moved : FnOk P w K mg base CX0 (n + 1) T.a__law_moved T.d__law_moved ["tree", "old", "new", "names"] (spMoved K n)) :
    FnOk P w K mg base CX0 (n + 2) T.a__law_moved T.d__law_moved ["tree", "old", "new", "names"] (spMoved K (n + 1)) := by
  have G__law_row := ok_row (P := P) (base := base) T (k := n)
  refine T.F__law_moved.ok sc__law_moved (fun vs H Q E h => ?_) (fun cdv A outer s H vs Q E hr h => ?_)
  · obtain ⟨v, t, old, new, R, ρ, rfl, _⟩ := h
    rfl
  obtain ⟨v, t, old, new, R, ρ, rfl, ht, hn, hR, q⟩ := h
  obtain ⟨a, xs, rfl, hs, hx⟩ := Row.at_ ht
  have hl := hx.len
  rw [List.length_append, List.length_map] at hl
  have lm := t.len_mid
  have lk := t.len_kids
  refine ⟨_, (pss_cons (ps_set (i := 4) sc__law_moved.nd rfl (Or.inl rfl) (pe_lstN pa_nil))
    (pss_cons (ps_for PassesOwn.never rfl (pi_range1 (by rfl) T.z_range (pa_cons (pe_callB call_len_seq (by rfl) T.z_len (by decide +kernel) (pa_cons (pv 0) pa_nil)) pa_nil)) (pg_name (i := 5) sc__law_moved.nd rfl (Or.inl rfl))
      (pss_cons (ps_set (i := 6) sc__law_moved.nd rfl (Or.inl rfl) (pe_ix ix_tup (pv 0) (pv 5) (fun _ _ => rfl)))
      (C8.pss_cut (ps_if (PW.pt (pw_and (pt_cmpR op_eq (pv 5) pe_int (nomark _)) (pw_and1 (pt_cmpR op_in_seq (pe_ix ix_tup (pv 0) pe_int (fun _ _ => rfl)) (pe_tupN (pa_cons pe_str (pa_cons pe_str (pa_cons pe_str (pa_cons pe_str pa_nil))))) (by rfl)))))
        (pss_one (ps_if (PW.pt (pw_and (pt_val (pe_callB call_isi (by rfl) T.z_isinstance (by decide +kernel) (pa_cons (pv 6) (pa_cons (pe_bltn (v := .ty "int") (by rfl) T.z_int (by decide +kernel) rfl) pa_nil)))) (pw_and1 (pt_cmpR op_ge (pv 6) (pv 1) (nomark _)))))
          (pss_one (ps_set (i := 6) sc__law_moved.nd rfl (Or.inl rfl) (pe_op op_sub (pe_op op_add (pv 6) (pv 2)) (pv 1))))
          (pss_one (ps_set (i := 6) sc__law_moved.nd rfl (Or.inl rfl) (pe_dget2 (hu_of hr) (pv 3) (pv 6) (pv 6) ⟨rfl, rfl, rfl, rfl⟩)))))
        (pss_one (ps_if (PW.pt (pw_and (pt_cmpR op_gt (pv 5) pe_int (nomark _)) (pw_and1 (pt_val (pe_call (G__law_row) hr (by rfl) T.g__law_row T.k__law_row T.b__law_row .nil pass0 (pa_cons (pv 6) pa_nil))))))
          (pss_one (ps_set (i := 6) sc__law_moved.nd rfl (Or.inl rfl) (pe_call (G__law_moved) hr (by rfl) T.g__law_moved T.k__law_moved T.b__law_moved .nil pass0 (pa_cons (pv 6) (pa_cons (pv 1) (pa_cons (pv 2) (pa_cons (pv 3) pa_nil)))))))
          pss_nil)))
      (pss_one (ps_expr (pe_bm PySem.F.plainAttrs_list PySem.F.slot_list_append PySem.F.type_list_append mt_append (pv 4) (pa_cons (pv 6) pa_nil)))))))
    (pss_one (ps_ret (pe_callTy call_tupleN (by rfl) T.z_tuple (by decide +kernel) (pa_cons (pv 4) pa_nil)))))), ?_⟩
  -- out = []
  refine ⟨Nat.zero_le _, fun H1 O s1 nO hO => ?_⟩
  -- for k in range(len(tree))
  refine ⟨_, rfl, a, _, rfl, .inr (s1.seqT hs), _, rfl, by rw [List.length_cons]; omega, by rw [List.length_cons]; omega, ?_⟩
  refine for_range (lo := 0) (n := (((V.str t.name :: xs).length : Nat) : Int).toNat) (fun i σ' H' => ∃ y5 y6, σ' = [some (.ref a), some (.int old), some (.int new), some (.ref R), some (.ref O), y5, y6] ∧ Same H H' ∧
      ∃ acc, H' O = some (.lst acc) ∧ DpAll K H' acc ((PyData.str t.name :: (t.midMv old new ρ ++ (t.kids.map (Row.mv old new ρ)).map Row.d)).take i))
    ⟨none, none, rfl, s1, [], hO, .nil⟩ ?_ ?_
  · rintro i σ' H' hi ⟨y5, y6, rfl, s', acc, hO', hacc⟩
    have hi' : i < xs.length + 1 := by rw [List.length_cons] at hi; omega
    have ai : ∃ x, (V.str t.name :: xs)[i]? = some x := ⟨_, List.getElem?_eq_getElem (by rw [List.length_cons]; exact hi')⟩
    obtain ⟨x, hxi⟩ := ai
    -- item = tree[k]
    refine ⟨_, rfl, _, rfl, a, _, _, x, rfl, rfl, s'.seqT hs, atI_at (j := i) (Int.zero_add _) hxi, ?_⟩
    have tt : tuAll (PyData.str t.name :: (t.midMv old new ρ ++ (t.kids.map (Row.mv old new ρ)).map Row.d)) = true := by
      have := (t.mv old new ρ).tu
      rw [Row.mv_items] at this
      exact this
    -- the item's new value, then out.append(item)
    refine ⟨fun σ' H2 => ∃ y d', σ' = [some (.ref a), some (.int old), some (.int new), some (.ref R), some (.ref O), some (.int (0 + (i : Int))), some y] ∧ Same H' H2 ∧
      (PyData.str t.name :: (t.midMv old new ρ ++ (t.kids.map (Row.mv old new ρ)).map Row.d))[i]? = some d' ∧ Dp K H2 y d', ?_, ?_⟩
    rotate_left
    · rintro σ' H2 ⟨y, d', rfl, s2, hd', hy⟩
      have hO2 := s2 _ _ hO'
      have la := hacc.len
      rw [List.length_take, List.length_cons, List.length_append, Row.midMv_len, List.length_map, List.length_map] at la
      refine ⟨_, rfl, .inl ⟨rfl, _, SqL.of hO2⟩, _, rfl, O, acc, _, rfl, rfl, hO2, sz_lt (by omega), _, _, rfl, Same.mut (s'.trans s2) nO, _, upd_same, ?_⟩
      rw [List.take_add_one, hd']
      exact grown hO2 (Dp.smAll s2 _ _ hacc) hy (tuAll_take _ _ tt) (tuAll_at _ _ _ tt hd')
    refine ⟨_, rfl, rfl, _, rfl, ?_⟩
    cases i with
    | zero =>
      cases hxi
      refine iteB (fun z => absurd (of_decide_eq_true z) (fun z => by cases z)) fun _ => iteF ?_
      refine ⟨_, rfl, _, _, rfl, rfl, _, rfl, ?_⟩
      refine iteB (fun z => absurd (of_decide_eq_true z) (by decide)) fun _ => iteF ?_
      exact ⟨_, _, rfl, Same.refl _, rfl, .str _⟩
    | succ j =>
      have hxj : xs[j]? = some x := hxi
      obtain ⟨d, hd, hxd⟩ := hx.atV hxj
      have nd : (PyData.str t.name :: (t.midMv old new ρ ++ (t.kids.map (Row.mv old new ρ)).map Row.d))[j + 1]? = (t.midMv old new ρ ++ (t.kids.map (Row.mv old new ρ)).map Row.d)[j]? := rfl
      by_cases hj : j = 0 ∧ t.ref.isSome = true
      · obtain ⟨rfl, hrs⟩ := hj
        cases hf : t.ref with
        | none => rw [hf] at hrs; cases hrs
        | some f =>
          obtain ⟨m, hm⟩ := Row.mid_some hf
          rw [hm] at hd
          cases hd
          obtain rfl := hxd.key_inv
          have nm : (PyData.str t.name :: (t.midMv old new ρ ++ (t.kids.map (Row.mv old new ρ)).map Row.d))[0 + 1]? = some (kD (mvRef old new ρ f)) := by
            rw [nd]
            unfold Row.midMv
            rw [hf, hm]
            rfl
          refine iteB (fun _ => ?_) fun z => absurd z (by rw [decide_eq_true (by rfl)]; decide)
          refine ⟨_, rfl, a, _, 0, .str t.name, rfl, rfl, s'.seqT hs, atI_at (j := 0) rfl rfl, by decide, fun H2 p s2 np hp => ?_⟩
          refine ⟨p, _, rfl, .inr (SqT.of hp), rfl, rfl, _, rfl, ?_⟩
          refine iteB (fun _ => ?_) fun z => ?_
          · have hR2 := s2 _ _ (s' _ _ hR)
            obtain ⟨ty, h1, h2, _⟩ := ty_key (K := K) (H := H2) f
            refine ⟨_, rfl, _, _, ty, .type "int", _, rfl, .ty _, h1, h2, _, rfl, ?_⟩
            have fin : ∀ z : Key, mvRef old new ρ f = z → ∃ y d', [some (V.ref a), some (.int old), some (.int new), some (.ref R), some (.ref O), some (.int (0 + ((0 + 1 : Nat) : Int))), some (kV z)] =
                [some (V.ref a), some (.int old), some (.int new), some (.ref R), some (.ref O), some (.int (0 + ((0 + 1 : Nat) : Int))), some y] ∧ Same H' H2 ∧
                (PyData.str t.name :: (t.midMv old new ρ ++ (t.kids.map (Row.mv old new ρ)).map Row.d))[0 + 1]? = some d' ∧ Dp K H2 y d' := fun z hz =>
              ⟨kV z, kD z, rfl, s2, by rw [nm, hz], Dp.key z⟩
            have e := Ren.valV ρ f
            have g : DGet H2 R (kV f) _ := DGet.k (k := f) hR2
            rw [e] at g
            have gt : ((ρ.look f).map kV).getD (kV f) = kV (ρ.to f) := by
              unfold Ren.to
              cases ρ.look f <;> rfl
            cases f with
            | inl b =>
              refine iteT ⟨_, rfl, _, rfl, b, old, rfl, rfl, _, rfl, ?_⟩
              refine ite2 (c := decide (old ≤ b) = true) (fun h => ?_) fun h => ?_
              · exact ⟨_, rfl, _, rfl, _, _, rfl, rfl, _, rfl, _, _, rfl, rfl, fin (.inl (b + new - old)) (if_pos (of_decide_eq_true h))⟩
              · refine ⟨_, rfl, R, rfl, .inl ⟨_, .inl hR2⟩, _, rfl, _, rfl, _, g, ?_⟩
                have := fin (ρ.to (.inl b)) (if_neg fun z => h (decide_eq_true z))
                rw [← gt] at this
                exact this
            | inr b =>
              refine iteF ⟨_, rfl, R, rfl, .inl ⟨_, .inl hR2⟩, _, rfl, _, rfl, _, g, ?_⟩
              have := fin (ρ.to (.inr b)) rfl
              rw [← gt] at this
              exact this
          · have z' : inV (.str t.name) refNames = false := z
            rw [ref_name, hf] at z'
            cases z'
      · have ok : ItemOk d ∧ (rowD d = false → (t.midMv old new ρ ++ (t.kids.map (Row.mv old new ρ)).map Row.d)[j]? = some d) ∧
            (rowD d = true → ∃ c ∈ t.kids, d = c.d ∧ (t.midMv old new ρ ++ (t.kids.map (Row.mv old new ρ)).map Row.d)[j]? = some (c.mv old new ρ).d) := by
          by_cases hm : j < t.mid.length
          · rw [List.getElem?_append_left hm] at hd
            obtain ⟨i1, i2⟩ := item_mid t d (List.mem_of_getElem? hd)
            refine ⟨i1, fun _ => ?_, fun z => ?_⟩
            · rw [List.getElem?_append_left (by rw [Row.midMv_len]; exact hm)]
              exact Row.mid_at hd hj
            · rw [i2] at z; cases z
          · rw [List.getElem?_append_right (by omega), List.getElem?_map] at hd
            cases hc : t.kids[j - t.mid.length]? with
            | none => rw [hc] at hd; cases hd
            | some c =>
              rw [hc] at hd
              cases hd
              obtain ⟨i1, i2⟩ := item_row c
              refine ⟨i1, fun z => ?_, fun _ => ⟨c, List.mem_of_getElem? hc, rfl, ?_⟩⟩
              · rw [i2] at z; cases z
              · rw [List.getElem?_append_right (by rw [Row.midMv_len]; omega), Row.midMv_len, List.getElem?_map, List.getElem?_map, hc]
                rfl
        obtain ⟨iok, inot, irow⟩ := ok
        have s2 := Same.refl H'
        refine iteB (fun z => ?_) fun _ => iteF ?_
        · have z' := of_decide_eq_true z
          have j0 : j = 0 := by
            injection z' with z'
            omega
          refine ⟨_, rfl, a, _, 0, .str t.name, rfl, rfl, s'.seqT hs, atI_at (j := 0) rfl rfl, by decide, fun H2 p s2 np hp => ?_⟩
          refine ⟨p, _, rfl, .inr (SqT.of hp), rfl, rfl, _, rfl, ?_⟩
          refine iteB (fun z => ?_) fun _ => ?_
          · have z' : inV (.str t.name) refNames = true := z
            rw [ref_name] at z'
            exact absurd ⟨j0, z'⟩ hj
          refine ⟨_, rfl, _, _, rfl, rfl, _, rfl, ?_⟩
          refine iteB (fun _ => ?_) fun z => absurd z (by rw [decide_eq_true (by omega)]; decide)
          refine ⟨_, rfl, x, d, rfl, Dp.sm (s'.trans s2) _ _ hxd, iok, fun H3 s3 => ⟨_, rfl, ?_⟩⟩
          refine iteB (fun z => ?_) fun z => ⟨_, _, rfl, s2.trans s3, inot z, Dp.sm ((s'.trans s2).trans s3) _ _ hxd⟩
          obtain ⟨c, hc, rfl, hi'⟩ := irow z
          have := Row.ht_kid hc
          exact ⟨_, rfl, _, rfl, _, rfl, _, rfl, x, c, old, new, R, ρ, rfl, Dp.sm ((s'.trans s2).trans s3) _ _ hxd, by omega, s3 _ _ (s2 _ _ (s' _ _ hR)), fun H4 r s4 hr4 =>
            ⟨_, _, rfl, (s2.trans s3).trans s4, hi', hr4⟩⟩
        · refine ⟨_, rfl, _, _, rfl, rfl, _, rfl, ?_⟩
          refine iteB (fun _ => ?_) fun z => absurd z (by rw [decide_eq_true (by omega)]; decide)
          refine ⟨_, rfl, x, d, rfl, Dp.sm (s'.trans s2) _ _ hxd, iok, fun H3 s3 => ⟨_, rfl, ?_⟩⟩
          refine iteB (fun z => ?_) fun z => ⟨_, _, rfl, s2.trans s3, inot z, Dp.sm ((s'.trans s2).trans s3) _ _ hxd⟩
          obtain ⟨c, hc, rfl, hi'⟩ := irow z
          have := Row.ht_kid hc
          exact ⟨_, rfl, _, rfl, _, rfl, _, rfl, x, c, old, new, R, ρ, rfl, Dp.sm ((s'.trans s2).trans s3) _ _ hxd, by omega, s3 _ _ (s2 _ _ (s' _ _ hR)), fun H4 r s4 hr4 =>
            ⟨_, _, rfl, (s2.trans s3).trans s4, hi', hr4⟩⟩
  · rintro σ' H' ⟨y5, y6, rfl, s', acc, hO', hacc⟩
    refine ⟨_, rfl, O, acc, rfl, .inl (SqL.of hO'), fun H2 l s2 hl2 => q H2 _ (s'.trans s2) ?_⟩
    rw [Row.mv_items]
    refine .tup hl2 ?_
    rw [List.take_of_length_le] at hacc
    · exact Dp.smAll s2 _ _ hacc
    · rw [List.length_cons, List.length_cons, List.length_append, Row.midMv_len, List.length_map, List.length_map]; omega
theorem ok_lmoved (T : Tx K w mg) : ∀ n : Nat, FnOk P w K mg base CX0 (n + 1) T.a__law_moved T.d__law_moved ["tree", "old", "new", "names"] (spMoved K n)
  | 0 => by
    have no : ∀ vs H Q E, ¬ spMoved K 0 vs H Q E := fun vs H Q E h => by
      obtain ⟨v, t, old, new, R, ρ, _, _, hn, _⟩ := h
      have := t.ht_pos
      omega
    exact ⟨fun vs H Q E h => absurd h (no vs H Q E), fun A outer s H args us vs Q E _ _ _ _ h => absurd h (no vs H Q E)⟩
  | n + 1 => lmoved_step T (ok_lmoved T n)
end
end HA

/-! The law's own references. -/
namespace HA
open PySem PySem.Spec PyProof.Rows L2
theorem addTo_grow : ∀ (xs f : List Key), f.length ≤ (addTo f xs).length
  | [], f => Nat.le_refl _
  | x :: xs, f => by
    rw [addTo_cons]
    refine Nat.le_trans ?_ (addTo_grow xs _)
    split
    · exact Nat.le_refl _
    · rw [List.length_append]; omega
theorem snoc_inv {K : PySem.W.Frag} {H : Hp} {vs : List V} {ds : List PyData} {d : PyData} (h : DpAll K H vs (ds ++ [d])) :
    ∃ us v, vs = us ++ [v] ∧ DpAll K H us ds ∧ Dp K H v d := by
  have h1 := h.take ds.length
  have h2 := h.drop ds.length
  rw [List.take_left] at h1
  rw [List.drop_left] at h2
  have e : vs = vs.take ds.length ++ vs.drop ds.length := (List.take_append_drop _ _).symm
  cases hv : vs.drop ds.length with
  | nil => rw [hv] at h2; cases h2
  | cons v r =>
    rw [hv] at h2 e
    cases h2 with
    | cons a b =>
      cases b
      exact ⟨_, v, e, h1, a⟩
theorem _root_.L2.DpAll.rev {K : PySem.W.Frag} {H : Hp} : ∀ {vs : List V} {ds : List PyData}, DpAll K H vs ds → DpAll K H vs.reverse ds.reverse
  | _, _, .nil => .nil
  | _, _, .cons a b => by
    rw [List.reverse_cons, List.reverse_cons]
    exact (L2.DpAll.rev b).app (.cons a .nil)
theorem rows_only (t : Row) : (t.mid ++ t.kids.map Row.d).filter rowD = t.kids.map Row.d := by
  rw [List.filter_append]
  have h1 : t.mid.filter rowD = [] := by
    rw [List.filter_eq_nil_iff]
    intro d hd
    rw [(item_mid t d hd).2]
    decide
  have h2 : (t.kids.map Row.d).filter rowD = t.kids.map Row.d := by
    rw [List.filter_eq_self]
    intro d hd
    obtain ⟨c, _, rfl⟩ := List.mem_map.mp hd
    exact (item_row c).2
  rw [h1, h2, List.nil_append]
theorem items_ok (t : Row) : ∀ d ∈ t.mid ++ t.kids.map Row.d, ItemOk d := fun d hd => by
  rcases List.mem_append.mp hd with hd | hd
  · exact (item_mid t d hd).1
  · obtain ⟨c, _, rfl⟩ := List.mem_map.mp hd
    exact (item_row c).1
/-- what is left on the stack -/
def rest (level : Int) (S : List Row) : List Key := ((S.reverse.map Row.refs).flatten).filter (isFree level)
theorem rest_pop (level : Int) (S : List Row) (x : Row) : rest level (S ++ [x]) = (x.ref.toList.filter (isFree level)) ++ rest level (S ++ x.kids.reverse) := by
  unfold rest
  rw [List.reverse_append, List.reverse_append, List.reverse_reverse, List.map_append, List.map_append, List.flatten_append, List.flatten_append, ← List.filter_append]
  congr 1
  show (List.map Row.refs [x]).flatten ++ _ = _
  rw [List.map_cons, List.map_nil, List.flatten_cons, List.flatten_nil, List.append_nil, Row.refs_eq, List.append_assoc]
theorem rows_len : ∀ S : List Row, S.length ≤ (S.map Row.sz).sum
  | [] => Nat.le_refl _
  | c :: r => by
    have h := rows_len r
    have h0 : 0 < c.sz := by cases c <;> simp only [Row.sz] <;> omega
    rw [List.length_cons, List.map_cons, List.sum_cons]
    omega
theorem tuAll_app : ∀ (l r : List PyData), tuAll l = true → tuAll r = true → tuAll (l ++ r) = true
  | [], _, _, h => h
  | x :: l, r, h, h2 => by
    have h' : (tu x && tuAll l) = true := h
    rw [Bool.and_eq_true] at h'
    show (tu x && tuAll (l ++ r)) = true
    rw [h'.1, tuAll_app l r h'.2 h2]
    rfl
theorem tuAll_filter (p : PyData → Bool) : ∀ (l : List PyData), tuAll l = true → tuAll (l.filter p) = true
  | [], h => h
  | x :: l, h => by
    have h' : (tu x && tuAll l) = true := h
    rw [Bool.and_eq_true] at h'
    have ih := tuAll_filter p l h'.2
    rw [List.filter_cons]
    split
    · show (tu x && tuAll (l.filter p)) = true
      rw [h'.1, ih]
      rfl
    · exact ih
theorem items_tu (x : Row) : tuAll (x.mid ++ x.kids.map Row.d) = true := by
  have h := x.tu
  rw [Row.d_eq] at h
  exact h
section
variable {P : Program} {w : World} {K : PySem.W.Frag} {mg : Str → Option Value} {base : Heap}
def OutW (K : PySem.W.Frag) (v : V) (t : Row) (level : Int) (F L : Addr) (H : Hp) (m : Nat) (σ' : L2.St) (H' : Hp) : Prop :=
  ∃ y4 y5 y6 cur S vs, σ' = [some v, some (.int level), some (.ref F), some (.ref L), y4, y5, y6] ∧ Same H H' ∧ H' F = some (.lst (cur.map kV)) ∧
      H' L = some (.lst vs) ∧ DpAll K H' vs (S.map Row.d) ∧ m = (S.map Row.sz).sum ∧ m ≤ t.sz ∧ addTo cur (rest level S) = t.free level
def spOutside (K : PySem.W.Frag) : Sp := fun vs H Q _ => ∃ (v : V) (t : Row) (level : Int),
  vs = [v, .int level] ∧ Dp K H v t.d ∧ t.sz ≤ 10000 ∧
  ∀ H' p, Same H H' → H p = none → H' p = some (.lst ((t.free level).map kV)) → Q (.ref p) H'
theorem ok_outside (T : Tx K w mg) {k : Nat} : FnOk P w K mg base CX0 (k + 2) T.a__law_outside T.d__law_outside ["tree", "level"] (spOutside K) := by
  have G__law_row := ok_row (P := P) (base := base) T (k := k)
  refine T.F__law_outside.ok sc__law_outside (fun vs H Q E h => ?_) (fun cdv A outer s H vs Q E hr h => ?_)
  · obtain ⟨v, t, level, rfl, _⟩ := h
    rfl
  obtain ⟨v, t, level, rfl, ht, hz, q⟩ := h
  refine ⟨_, (pss_cons (ps_set (i := 2) sc__law_outside.nd rfl (Or.inl rfl) (pe_lstN pa_nil))
    (pss_cons (ps_set (i := 3) sc__law_outside.nd rfl (Or.inl rfl) (pe_lstN (pa_cons (pv 0) pa_nil)))
    (pss_cons (ps_while PassesOwn.never (pt_truth (pv 3) (by intro _; rfl))
      (pss_cons (ps_set (i := 4) sc__law_outside.nd rfl (Or.inl rfl) (pe_bm0 PySem.F.plainAttrs_list PySem.F.slot_list_pop PySem.F.type_list_pop mt_pop (pv 3)))
      (C8.pss_cut (ps_if (pt_cmpR op_in_seq (pe_ix ix_tup (pv 4) pe_int (fun _ _ => rfl)) (pe_tupN (pa_cons pe_str (pa_cons pe_str (pa_cons pe_str (pa_cons pe_str pa_nil))))) (by rfl))
        (pss_one (ps_if (PW.pt (pw_and (PW.pt (pw_or (pt_val (pe_callB call_isi (by rfl) T.z_isinstance (by decide +kernel) (pa_cons (pe_ix ix_tup (pv 4) pe_int (fun _ _ => rfl)) (pa_cons (pe_bltn (v := .ty "str") (by rfl) T.z_str (by decide +kernel) rfl) pa_nil)))) (pw_or1 (pt_cmpR op_lt (pe_ix ix_tup (pv 4) pe_int (fun _ _ => rfl)) (pv 1) (nomark _))))) (pw_and1 (pt_cmpR op_notIn_seq (pe_ix ix_tup (pv 4) pe_int (fun _ _ => rfl)) (pv 2) (by rfl)))))
          (pss_one (ps_expr (pe_bm PySem.F.plainAttrs_list PySem.F.slot_list_append PySem.F.type_list_append mt_append (pv 2) (pa_cons (pe_ix ix_tup (pv 4) pe_int (fun _ _ => rfl)) pa_nil))))
          pss_nil))
        pss_nil)
      (pss_cons (ps_setLc (i := 5) (own := [("item", 6)]) (g := gName 6) rfl sc__law_outside.nd rfl rfl (sw_true rfl rfl rfl (by decide +kernel)) (pi_tup (pe_slice sl_tupN (pv 4) (po_some pe_int) po_none)) (blkOk_by (own := [("item", 6)]) (N := N__law_outside) (sc := defScope s__law_outside) (by decide +kernel)) (fun _ _ _ _ _ => pg_name (i := 6) sc__law_outside.nd rfl (Or.inl rfl)) (fun _ _ _ _ _ => pts_one (pt_val (pe_call (G__law_row) hr (by rfl) T.g__law_row T.k__law_row T.b__law_row .nil pass0 (pa_cons (pv 6) pa_nil)))) (fun _ _ _ _ _ => (pv 6)))
      (pss_cons (ps_expr (pe_bm0 PySem.F.plainAttrs_list PySem.F.slot_list_reverse PySem.F.type_list_reverse mt_reverse (pv 5)))
      (pss_one (ps_expr (pe_bm PySem.F.plainAttrs_list PySem.F.slot_list_extend PySem.F.type_list_extend mt_extend (pv 3) (pa_cons (pv 5) pa_nil)))))))))
    (pss_one (ps_ret (pv 2)))))), ?_⟩
  -- found = []; left = [tree]
  refine ⟨Nat.zero_le _, fun H1 F s1 nF hF => ?_⟩
  refine ⟨_, rfl, (by show 1 ≤ 1000; decide), fun H2 L s2 nL hL => ?_⟩
  have hF2 := s2 _ _ hF
  have FL : F ≠ L := ne_of_none hF nL
  have nL0 := s1.free nL
  -- while left
  refine ⟨OutW K v t level F L H, ⟨t.sz, none, none, none, [], [t], _, rfl, s1.trans s2, hF2, hL, .cons (Dp.sm (s1.trans s2) _ _ ht) .nil, by simp, Nat.le_refl _, ?_⟩, ?_⟩
  · unfold rest Row.free
    simp
  rintro m σ' H' ⟨y4, y5, y6, cur, S, vs, rfl, s', hF', hL', hvs, em, ml, inv⟩
  refine ⟨_, rfl, !vs.isEmpty, .inl ⟨vs, SqL.of hL', rfl⟩, ?_⟩
  refine iteB (fun e => ?_) fun e => ?_
  · -- a turn
    rcases List.eq_nil_or_concat S with rfl | ⟨S0, x, rfl⟩
    · cases hvs
      cases e
    rw [List.concat_eq_append] at *
    rw [List.map_append] at hvs
    obtain ⟨us, vx, rfl, hus, hvx⟩ := snoc_inv hvs
    obtain ⟨a, xs, rfl, hs, hx⟩ := Row.at_ hvx
    have em' : m = (S0.map Row.sz).sum + x.sz := by rw [em, List.map_append, List.sum_append]; simp
    have lS : us.length ≤ (S0.map Row.sz).sum := by
      have h1 := hus.len
      rw [h1, List.length_map]
      exact rows_len S0
    have lc : cur.length ≤ t.sz := by
      have h1 := addTo_grow (rest level (S0 ++ [x])) cur
      rw [inv] at h1
      exact Nat.le_trans h1 (free_len t level)
    have lk := x.len_kids
    refine ⟨fun σ2 H2 => ∃ m', m' < m ∧ OutW K v t level F L H m' σ2 H2, fun σ2 H2 h => h, ?_⟩
    -- row = left.pop()
    refine ⟨_, rfl, .inl ⟨rfl, _, SqL.of hL'⟩, L, _, .ref a, rfl, rfl, hL', by simp, ?_⟩
    have k3 : Kp [L] H' (upd H' L (.lst (us ++ [V.ref a]).dropLast)) := Kp.wr (.head _)
    have hL3 : upd H' L (.lst (us ++ [V.ref a]).dropLast) L = some (.lst us) := by rw [upd_same, List.dropLast_concat]
    have hF3 : upd H' L (.lst (us ++ [V.ref a]).dropLast) F = some (.lst (cur.map kV)) := by rw [upd_ne FL]; exact hF'
    revert k3 hL3 hF3
    generalize upd H' L (.lst (us ++ [V.ref a]).dropLast) = H3
    intro k3 hL3 hF3
    have ll : Lsts [L] H' := Lsts.one hL'
    have hs3 := k3.seqT ll hs
    -- if row[0] in ..
    refine ⟨fun σ2 H2 => σ2 = [some v, some (.int level), some (.ref F), some (.ref L), some (.ref a), y5, y6] ∧ Kp [F] H3 H2 ∧
      H2 F = some (.lst ((addTo cur (x.ref.toList.filter (isFree level))).map kV)), ?_, ?_⟩
    · refine ⟨_, rfl, a, _, 0, .str x.name, rfl, rfl, hs3, atI_at (j := 0) rfl rfl, by decide, fun H4 p s4 np hp => ?_⟩
      refine ⟨p, _, rfl, .inr (SqT.of hp), rfl, rfl, _, rfl, ?_⟩
      have hs4 := s4.seqT hs3
      have hF4 := s4 _ _ hF3
      refine iteB (fun z => ?_) fun z => ?_
      · have z' : inV (.str x.name) refNames = true := z
        rw [ref_name] at z'
        cases hf : x.ref with
        | none => rw [hf] at z'; cases z'
        | some f =>
          obtain ⟨mm, hm⟩ := Row.mid_some hf
          rw [hm] at hx
          cases hx with
          | cons x1 x2 =>
            obtain rfl := x1.key_inv
            have skip : (isFree level f = false ∨ f ∈ cur) → Kp [F] H3 H4 ∧ H4 F = some (.lst ((addTo cur ([f].filter (isFree level))).map kV)) := fun h => by
              refine ⟨Kp.of s4, ?_⟩
              rw [hF4, List.filter_cons]
              by_cases g : isFree level f = true
              · rw [if_pos g]
                rcases h with h | h
                · rw [h] at g; cases g
                · rw [List.filter_nil, addTo_cons, if_pos h]; rfl
              · rw [if_neg g]; rfl
            have putin : isFree level f = true → f ∉ cur → Kp [F] H3 (upd H4 F (.lst (cur.map kV ++ [kV f]))) ∧ upd H4 F (.lst (cur.map kV ++ [kV f])) F = some (.lst ((addTo cur ([f].filter (isFree level))).map kV)) := fun g h => by
              refine ⟨(Kp.of s4).trans (Kp.wr (.head _)), ?_⟩
              rw [upd_same, List.filter_cons, if_pos g, List.filter_nil, addTo_cons, if_neg h, addTo_nil, List.map_append]
              rfl
            have atf : ∀ r : List V, atI (V.str x.name :: kV f :: r) 1 = some (kV f) := fun r => atI_at (j := 1) rfl rfl
            obtain ⟨ty, h1, _, h3⟩ := ty_key (K := K) (H := H4) f
            refine ⟨_, rfl, a, _, 1, kV f, rfl, rfl, hs4, atf _, _, _, ty, .type "str", _, rfl, .ty _, h1, h3, _, rfl, ?_⟩
            cases f with
            | inr n =>
              refine iteT (iteT ?_)
              refine ⟨_, rfl, a, _, 1, _, rfl, rfl, hs4, atf _, _, rfl, F, _, rfl, .inl (SqL.of hF4), flat_key (.inr n), flat_keys _, _, rfl, ?_⟩
              refine iteB (fun z => ?_) fun z => ?_
              · have z' : (!inV (kV (.inr n)) (cur.map kV)) = true := z
                rw [inV_key, Bool.not_eq_true', decide_eq_false_iff_not] at z'
                exact ⟨_, rfl, .inl ⟨rfl, _, SqL.of hF4⟩, _, rfl, a, _, 1, _, rfl, rfl, hs4, atf _, F, _, _, rfl, rfl, hF4, sz_lt (by rw [List.length_map]; omega), rfl, putin rfl z'⟩
              · have z' : (!inV (kV (.inr n)) (cur.map kV)) = false := z
                rw [inV_key, Bool.not_eq_false', decide_eq_true_iff] at z'
                exact ⟨rfl, skip (.inr z')⟩
            | inl b =>
              refine iteF ⟨_, rfl, a, _, 1, _, rfl, rfl, hs4, atf _, _, rfl, b, level, rfl, rfl, _, rfl, ?_⟩
              refine ite2 (c := decide (b < level) = true) (fun h => ?_) fun h => ?_
              · refine ⟨_, rfl, a, _, 1, _, rfl, rfl, hs4, atf _, _, rfl, F, _, rfl, .inl (SqL.of hF4), flat_key (.inl b), flat_keys _, _, rfl, ?_⟩
                refine iteB (fun z => ?_) fun z => ?_
                · have z' : (!inV (kV (.inl b)) (cur.map kV)) = true := z
                  rw [inV_key, Bool.not_eq_true', decide_eq_false_iff_not] at z'
                  exact ⟨_, rfl, .inl ⟨rfl, _, SqL.of hF4⟩, _, rfl, a, _, 1, _, rfl, rfl, hs4, atf _, F, _, _, rfl, rfl, hF4, sz_lt (by rw [List.length_map]; omega), rfl, putin h z'⟩
                · have z' : (!inV (kV (.inl b)) (cur.map kV)) = false := z
                  rw [inV_key, Bool.not_eq_false', decide_eq_true_iff] at z'
                  exact ⟨rfl, skip (.inr z')⟩
              · exact iteF ⟨rfl, skip (.inl (Bool.eq_false_iff.mpr h))⟩
      · have z' : inV (.str x.name) refNames = false := z
        rw [ref_name] at z'
        cases hf : x.ref with
        | some f => rw [hf] at z'; cases z'
        | none => exact ⟨rfl, Kp.of s4, hF4⟩
    · rintro σ2 H5 ⟨rfl, k5, hF5⟩
      have l5 : Lsts [F] H3 := Lsts.one hF3
      have hs5 := k5.seqT l5 hs3
      have hL5 := k5 L _ (by simp; exact fun z => FL z.symm) hL3
      -- parts = [item for item in row[1:] if _law_row(item)]
      refine ⟨_, rfl, 1, rfl, a, _, rfl, hs5, fun H6 b s6 hb => ⟨b, rfl, ⟨_, hb⟩, fun D nD => ?_⟩⟩
      rw [show (1 : Int) = ((1 : Nat) : Int) from rfl, cut_from, List.drop_succ_cons, List.drop_zero] at hb
      have hL6 := s6 _ _ hL5
      have hF6 := s6 _ _ hF5
      have DL : L ≠ D := ne_of_none hL6 nD
      have DF : F ≠ D := ne_of_none hF6 nD
      have hx6 : DpAll K H6 xs (x.mid ++ x.kids.map Row.d) := Dp.smAll s6 _ _ (Dp.kpAll k5 l5 _ _ (items_tu x) (Dp.kpAll k3 ll _ _ (items_tu x) hx))
      have hus6 : DpAll K H6 us (S0.map Row.d) := Dp.smAll s6 _ _ (Dp.kpAll k5 l5 _ _ (Row.tuKids _) (Dp.kpAll k3 ll _ _ (Row.tuKids _) hus))
      have s06 : Same H H6 := ((s'.kp k3 nL0).kp k5 nF).trans s6
      have nD0 := s06.free nD
      have lx := hx6.len
      rw [List.length_append, List.length_map] at lx
      have lm := x.len_mid
      refine lc_tup (xs := xs) (fun i H2 => Same H6 H2 ∧ ∃ acc, H2 D = some (.lst acc) ∧ DpAll K H2 acc (((x.mid ++ x.kids.map Row.d).take i).filter rowD))
        ⟨Same.new nD, [], upd_same, .nil⟩ (fun i H2 _ pv => pv.1.seqT hb) (fun i z H2 hi pv => ?_) fun H2 pv => ?_
      · obtain ⟨s7, acc, hD, ha⟩ := pv
        obtain ⟨d, hd, hz⟩ := hx6.atV hi
        refine ⟨rfl, _, rfl, z, d, rfl, Dp.sm s7 _ _ hz, items_ok x d (List.mem_of_getElem? hd), fun H8 s8 => ⟨_, rfl, ?_⟩⟩
        have hD8 := s8 _ _ hD
        have la := ha.len
        have lf := List.length_filter_le rowD ((x.mid ++ x.kids.map Row.d).take i)
        rw [List.length_take, List.length_append, List.length_map] at lf
        refine iteB (fun e => ⟨_, rfl, acc, hD8, sz_lt (by omega), Same.mut (s7.trans s8) nD, _, upd_same, ?_⟩) fun e => ⟨s7.trans s8, acc, hD8, ?_⟩
        · rw [List.take_add_one, hd, List.filter_append]
          show DpAll K _ _ (_ ++ List.filter rowD [d])
          rw [List.filter_cons, if_pos e]
          exact grown hD8 (Dp.smAll s8 _ _ ha) (Dp.sm (s7.trans s8) _ _ hz) (tuAll_filter _ _ (tuAll_take _ _ (items_tu x))) (tuAll_at _ _ _ (items_tu x) hd)
        · rw [List.take_add_one, hd, List.filter_append]
          show DpAll K _ _ (_ ++ List.filter rowD [d])
          rw [List.filter_cons, if_neg (by rw [e]; decide), List.filter_nil, List.append_nil]
          exact Dp.smAll s8 _ _ ha
      · obtain ⟨s7, acc, hD, ha⟩ := pv
        rw [List.take_of_length_le (by rw [List.length_append, List.length_map]; omega), rows_only] at ha
        -- parts.reverse(); left.extend(parts)
        have hL7 := s7 _ _ hL6
        have hF7 := s7 _ _ hF6
        have k8 : Kp [D] H2 (upd H2 D (.lst acc.reverse)) := Kp.wr (.head _)
        have hL8 : upd H2 D (.lst acc.reverse) L = some (.lst us) := by rw [upd_ne DL]; exact hL7
        have hD8 : upd H2 D (.lst acc.reverse) D = some (.lst acc.reverse) := upd_same
        have hF8 : upd H2 D (.lst acc.reverse) F = some (.lst ((addTo cur (x.ref.toList.filter (isFree level))).map kV)) := by rw [upd_ne DF]; exact hF7
        have la := ha.len
        rw [List.length_map] at la
        refine ⟨_, rfl, .inl ⟨rfl, _, SqL.of hD⟩, D, acc, rfl, rfl, hD, ?_⟩
        refine ⟨_, rfl, .inl ⟨rfl, _, SqL.of hL8⟩, _, rfl, L, D, us, acc.reverse, rfl, rfl, hL8, hD8, sz_le (by rw [List.length_reverse]; omega), ?_⟩
        have sk := x.sz_kids
        refine ⟨(S0.map Row.sz).sum + (x.kids.map Row.sz).sum, by omega, _, _, _, addTo cur (x.ref.toList.filter (isFree level)), S0 ++ x.kids.reverse, us ++ acc.reverse, rfl, ?_, ?_, upd_same, ?_, ?_, by omega, ?_⟩
        · refine (s06.trans s7).kps (S := [D, L]) (k8.mono (by simp) |>.trans (Kp.wr (by simp))) fun y hy => ?_
          rcases List.mem_cons.mp hy with rfl | hy
          · exact nD0
          · rw [List.mem_singleton.mp hy]; exact nL0
        · rw [upd_ne FL]; exact hF8
        · rw [List.map_append, List.map_reverse]
          have k9 : Kp [D, L] H2 (upd (upd H2 D (.lst acc.reverse)) L (.lst (us ++ acc.reverse))) := (k8.mono (by simp)).trans (Kp.wr (by simp))
          have l9 : Lsts [D, L] H2 := Lsts.cons hD (Lsts.one hL7)
          exact Dp.kpAll k9 l9 _ _ (tuAll_app _ _ (Row.tuKids _) (by rw [← List.map_reverse]; exact Row.tuKids _)) ((Dp.smAll s7 _ _ hus6).app ha.rev)
        · rw [List.map_append, List.sum_append, List.map_reverse, List.sum_reverse]
        · rw [← addTo_app, ← rest_pop, inv]
  · cases vs with
    | cons z r => cases e
    | nil =>
      cases S with
      | cons z r => cases hvs
      | nil =>
        have e2 : cur = t.free level := inv
        rw [e2] at hF'
        exact ⟨_, rfl, q H' F s' nF hF'⟩
end
end HA

/-! Data whose texts stay short. -/
namespace HA
open PySem PySem.Spec PyProof.Rows L2
def fineS (x : Str) : Bool := decide (x.length ≤ 12) && (tl x).all fun c => decide (c < 128)
mutual
def fine : PyData → Bool
  | .str x => fineS x
  | .int i => decide (i.natAbs < 1000000000)
  | .tuple xs => fineAll xs
  | .list xs => fineAll xs
  | _ => false
def fineAll : List PyData → Bool
  | [] => true
  | x :: xs => fine x && fineAll xs
end
mutual
def nodes : PyData → Nat
  | .tuple xs => nodesAll xs + 1
  | .list xs => nodesAll xs + 1
  | _ => 1
def nodesAll : List PyData → Nat
  | [] => 0
  | x :: xs => nodes x + nodesAll xs
end
theorem fineS_str {x : Str} (h : fineS x = true) : x.length ≤ 12 ∧ ∀ c ∈ tl x, c < 128 := by
  unfold fineS at h
  rw [Bool.and_eq_true, List.all_eq_true] at h
  exact ⟨of_decide_eq_true h.1, fun c hc => of_decide_eq_true (h.2 c hc)⟩
theorem fineS_name {x : Str} (h : NameOk x) : fineS x = true := by
  unfold fineS
  rw [Bool.and_eq_true, List.all_eq_true]
  refine ⟨decide_eq_true h.len.2, fun c hc => decide_eq_true ?_⟩
  have := h.all c hc
  unfold isLD isLc at this
  simp only [Bool.or_eq_true, Bool.and_eq_true, decide_eq_true_eq] at this
  omega
mutual
theorem fine_lay : ∀ d : PyData, fine d = true → d.canLay0 = true ∧ d.showable = true ∧ d.hasDict = false
  | .str x, h => by
    obtain ⟨h1, h2⟩ := fineS_str h
    refine ⟨?_, rfl, rfl⟩
    show PyData.strOk x = true
    unfold PyData.strOk
    rw [← Array.all_toList, List.all_eq_true]
    intro c hc
    exact decide_eq_true (Nat.lt_trans (h2 c hc) (by decide))
  | .int i, h => by
    have h' : i.natAbs < 1000000000 := of_decide_eq_true h
    refine ⟨rfl, decide_eq_true ?_, rfl⟩
    by_cases z : i.natAbs = 0
    · rw [z]; decide
    · exact Nat.lt_of_lt_of_le ((Nat.log2_lt (k := 30) z).mpr (Nat.lt_trans h' (by decide))) (by decide)
  | .tuple xs, h => by
    have := fine_layAll xs h
    exact ⟨this.1, this.2.1, this.2.2⟩
  | .list xs, h => by
    have := fine_layAll xs h
    exact ⟨this.1, this.2.1, this.2.2⟩
  | .none, h => by cases h
  | .bool _, h => by cases h
  | .dict _, h => by cases h
theorem fine_layAll : ∀ l : List PyData, fineAll l = true → PyData.canLayAll0 l = true ∧ PyData.showableAll l = true ∧ PyData.hasDictAll l = false
  | [], _ => ⟨rfl, rfl, rfl⟩
  | d :: l, h => by
    have h' : (fine d && fineAll l) = true := h
    rw [Bool.and_eq_true] at h'
    have a := fine_lay d h'.1
    have b := fine_layAll l h'.2
    refine ⟨?_, ?_, ?_⟩
    · show (d.canLay0 && PyData.canLayAll0 l) = true
      rw [a.1, b.1]; rfl
    · show (d.showable && PyData.showableAll l) = true
      rw [a.2.1, b.2.1]; rfl
    · show (d.hasDict || PyData.hasDictAll l) = false
      rw [a.2.2, b.2.2]; rfl
end
theorem tupleText_len (ts : List Str) : (tupleText ts).length ≤ piled ts + 3 := by
  have e3 : (((if ts.length == 1 then ",)" else ")" : String) : Str)).length ≤ 2 := by split <;> decide +kernel
  unfold tupleText
  rw [strLen_append, strLen_append, show ((("(" : String) : Str)).length = 1 from rfl]
  by_cases h : ts = []
  · subst h
    decide +kernel
  · have := join_length_add ts h
    omega
theorem listText_len : ∀ ts : List Str, (listText ts).length ≤ piled ts + 2
  | [] => by decide +kernel
  | t :: r => by
    have h := textFrom_length_pos r 1 (("[" : Str) ++ (if (0 : Nat) > 0 then ", " else "" : String) ++ t) (Nat.succ_pos 0)
    show (textFrom 1 (("[" : Str) ++ (if (0 : Nat) > 0 then ", " else "" : String) ++ t) r ++ "]").length ≤ _
    rw [strLen_append, h, strLen_append, strLen_append, piled_cons]
    have e1 : ((("[" : String) : Str)).length = 1 := rfl
    have e2 : ((("]" : String) : Str)).length = 1 := rfl
    have e4 : (((if (0 : Nat) > 0 then ", " else "" : String) : Str)).length = 0 := rfl
    omega
mutual
theorem shown_len : ∀ d : PyData, fine d = true → d.shown.length + 3 ≤ 2000 * nodes d
  | .str x, h => by
    obtain ⟨h1, h2⟩ := fineS_str h
    have := StrLaws.reprText_len x fun c hc => Nat.lt_trans (h2 c hc) (by decide)
    show (reprText x).length + 3 ≤ 2000 * 1
    omega
  | .int i, h => by
    have h' := (fine_lay (.int i) h).2.1
    have := int_text_len_1921 (i := i) (of_decide_eq_true h')
    show (Str.ofString (toString i)).length + 3 ≤ 2000 * 1
    omega
  | .tuple xs, h => by
    have h1 := shown_lenAll xs h
    have h2 := tupleText_len (PyData.shownAll xs)
    show (tupleText (PyData.shownAll xs)).length + 3 ≤ 2000 * (nodesAll xs + 1)
    omega
  | .list xs, h => by
    have h1 := shown_lenAll xs h
    have h2 := listText_len (PyData.shownAll xs)
    show (listText (PyData.shownAll xs)).length + 3 ≤ 2000 * (nodesAll xs + 1)
    omega
  | .none, h => by cases h
  | .bool _, h => by cases h
  | .dict _, h => by cases h
theorem shown_lenAll : ∀ l : List PyData, fineAll l = true → piled (PyData.shownAll l) ≤ 2000 * nodesAll l
  | [], _ => Nat.le_refl _
  | d :: l, h => by
    have h' : (fine d && fineAll l) = true := h
    rw [Bool.and_eq_true] at h'
    have a := shown_len d h'.1
    have b := shown_lenAll l h'.2
    show piled (d.shown :: PyData.shownAll l) ≤ 2000 * (nodes d + nodesAll l)
    rw [piled_cons]
    omega
end
theorem fine_shaped {d : PyData} (h : fine d = true) (hd : d.depth ≤ 64) : SeqAt.shaped d = true := by
  unfold SeqAt.shaped
  rw [(fine_lay d h).1, decide_eq_true hd]
  rfl
theorem nodes_key (r : Key) : nodes (kD r) = 1 := by cases r <;> rfl
theorem depth_key (r : Key) : (kD r).depth = 0 := by cases r <;> rfl
namespace Row
theorem mv_nodes (old new : Int) (ρ : Ren) (t : Row) : nodes (t.mv old new ρ).d = nodes t.d := by
  induction t <;> simp only [mv, d, nodes, nodesAll, nodes_key, *]
theorem mv_depth (old new : Int) (ρ : Ren) (t : Row) : (t.mv old new ρ).d.depth = t.d.depth := by
  induction t <;> simp only [mv, d, PyData.depth, PyData.depthAll, depth_key, *]
theorem mv_fine {old new : Int} {ρ : Ren} (t : Row) (h : fine t.d = true) (hr : ∀ r ∈ t.refs, fine (kD (mvRef old new ρ r)) = true) : fine (t.mv old new ρ).d = true := by
  induction t <;> simp only [refs, List.mem_cons, List.mem_append, List.not_mem_nil, or_false, forall_eq_or_imp, forall_eq, or_imp, forall_and] at hr <;>
    simp only [mv, d, fine, fineAll, Bool.and_eq_true, Bool.and_true] at h ⊢ <;> simp_all
end Row
end HA

/-! What a drawn derivation is. -/
namespace HA
open PySem PySem.Spec PyProof.Rows L2
def RefIn (outer : List Key) (base hi : Int) (r : Key) : Prop := r ∈ outer ∨ ∃ i, r = .inl i ∧ base ≤ i ∧ i < hi
theorem RefIn.mono {outer : List Key} {base hi hi' : Int} {r : Key} (h : RefIn outer base hi r) (l : hi ≤ hi') : RefIn outer base hi' r := by
  rcases h with h | ⟨i, e, h1, h2⟩
  · exact .inl h
  · exact .inr ⟨i, e, h1, by omega⟩
/-- of a level, with so many rows to spend -/
structure Grown (outer : List Key) (base lv : Int) (m : Nat) (t : Row) : Prop where
  fine : fine t.d = true
  nodes : nodes t.d ≤ 40 * t.sz
  dep : t.d.depth ≤ t.ht + 3
  ht : t.ht ≤ m + 1
  sz : t.sz ≤ 2 * m + 1
  refs : ∀ r ∈ t.refs, RefIn outer base (lv + m) r
theorem kd_nodes (k : Kd) : HA.nodes k.d ≤ 3 ∧ k.d.depth ≤ 1 := by
  cases k <;> simp [Kd.d, HA.nodes, nodesAll, PyData.depth, PyData.depthAll]
section
variable {outer : List Key} {base lv : Int} {m : Nat}
theorem Grown.own {r : Key} (h : RefIn outer base lv r) (f : HA.fine (kD r) = true) : Grown outer base lv m (.own r) := by
  refine ⟨?_, ?_, ?_, ?_, ?_, fun q hq => ?_⟩
  · show (fineS "own" && (HA.fine (kD r) && true)) = true
    rw [f]; decide +kernel
  · simp only [Row.d, HA.nodes, nodesAll, nodes_key, Row.sz]; omega
  · simp only [Row.d, PyData.depth, PyData.depthAll, depth_key, Row.ht]; omega
  · simp only [Row.ht]; omega
  · simp only [Row.sz]; omega
  · rw [List.mem_singleton.mp hq]
    exact h.mono (by omega)
theorem Grown.cite {x : Str} (f : fineS x = true) : Grown outer base lv m (.cite x) := by
  refine ⟨?_, ?_, ?_, ?_, ?_, fun q hq => by cases hq⟩
  · show (fineS "cite" && (fineS x && true)) = true
    rw [f]; decide +kernel
  · simp only [Row.d, HA.nodes, nodesAll, Row.sz]; omega
  · simp only [Row.d, PyData.depth, PyData.depthAll, Row.ht]; omega
  · simp only [Row.ht]; omega
  · simp only [Row.sz]; omega
theorem Grown.take {m' : Nat} {b : Row} (h : Grown outer base (lv + 1) m' b) (l : m' + 1 ≤ m) : Grown outer base lv m (.take b) := by
  obtain ⟨h1, h2, h3, h4, h5, h6⟩ := h
  refine ⟨?_, ?_, ?_, ?_, ?_, fun q hq => (h6 q hq).mono (by omega)⟩
  · show (fineS "take" && (HA.fine b.d && true)) = true
    rw [h1]; decide +kernel
  · simp only [Row.d, HA.nodes, nodesAll, Row.sz]; omega
  · simp only [Row.d, PyData.depth, PyData.depthAll, Row.ht]; omega
  · simp only [Row.ht]; omega
  · simp only [Row.sz]; omega
theorem Grown.make {m' : Nat} {x : Str} {i : Int} {b : Row} (f : fineS x = true) (g : i.natAbs < 1000000000) (h : Grown outer base lv m' b) (l : m' + 1 ≤ m) : Grown outer base lv m (.make x i b) := by
  obtain ⟨h1, h2, h3, h4, h5, h6⟩ := h
  refine ⟨?_, ?_, ?_, ?_, ?_, fun q hq => (h6 q hq).mono (by omega)⟩
  · show (fineS "make" && (fineS x && (decide (i.natAbs < 1000000000) && (HA.fine b.d && true)))) = true
    rw [h1, f, decide_eq_true g]; decide +kernel
  · simp only [Row.d, HA.nodes, nodesAll, Row.sz]; omega
  · simp only [Row.d, PyData.depth, PyData.depthAll, Row.ht]; omega
  · simp only [Row.ht]; omega
  · simp only [Row.sz]; omega
theorem Grown.pick {m' : Nat} {r : Key} {s : Str} {b : Row} (hr : RefIn outer base lv r) (fr : HA.fine (kD r) = true) (f : fineS s = true) (h : Grown outer base (lv + 1) m' b) (l : m' + 1 ≤ m) : Grown outer base lv m (.pick r s b) := by
  obtain ⟨h1, h2, h3, h4, h5, h6⟩ := h
  refine ⟨?_, ?_, ?_, ?_, ?_, fun q hq => ?_⟩
  · show (fineS "pick" && (HA.fine (kD r) && (fineS s && (HA.fine b.d && true)))) = true
    rw [h1, f, fr]; decide +kernel
  · simp only [Row.d, HA.nodes, nodesAll, nodes_key, Row.sz]; omega
  · simp only [Row.d, PyData.depth, PyData.depthAll, depth_key, Row.ht]; omega
  · simp only [Row.ht]; omega
  · simp only [Row.sz]; omega
  · rcases List.mem_cons.mp hq with rfl | hq
    · exact hr.mono (by omega)
    · exact (h6 q hq).mono (by omega)
theorem Grown.opn {m' : Nat} {r : Key} {x : Str} {i : Int} {b : Row} (hr : RefIn outer base lv r) (fr : HA.fine (kD r) = true) (f : fineS x = true) (g : i.natAbs < 1000000000) (h : Grown outer base (lv + 1) m' b) (l : m' + 1 ≤ m) : Grown outer base lv m (.opn r x i b) := by
  obtain ⟨h1, h2, h3, h4, h5, h6⟩ := h
  refine ⟨?_, ?_, ?_, ?_, ?_, fun q hq => ?_⟩
  · show (fineS "open" && (HA.fine (kD r) && (fineS x && (decide (i.natAbs < 1000000000) && (HA.fine b.d && true))))) = true
    rw [h1, f, fr, decide_eq_true g]; decide +kernel
  · simp only [Row.d, HA.nodes, nodesAll, nodes_key, Row.sz]; omega
  · simp only [Row.d, PyData.depth, PyData.depthAll, depth_key, Row.ht]; omega
  · simp only [Row.ht]; omega
  · simp only [Row.sz]; omega
  · rcases List.mem_cons.mp hq with rfl | hq
    · exact hr.mono (by omega)
    · exact (h6 q hq).mono (by omega)
theorem Grown.offer {m1 m2 : Nat} {a b : Row} (h : Grown outer base lv m1 a) (h' : Grown outer base lv m2 b) (l : m1 + m2 + 1 ≤ m) : Grown outer base lv m (.offer a b) := by
  obtain ⟨h1, h2, h3, h4, h5, h6⟩ := h
  obtain ⟨g1, g2, g3, g4, g5, g6⟩ := h'
  refine ⟨?_, ?_, ?_, ?_, ?_, fun q hq => ?_⟩
  · show (fineS "offer" && (HA.fine a.d && (HA.fine b.d && true))) = true
    rw [h1, g1]; decide +kernel
  · simp only [Row.d, HA.nodes, nodesAll, Row.sz]; omega
  · simp only [Row.d, PyData.depth, PyData.depthAll, Row.ht]; omega
  · simp only [Row.ht]; omega
  · simp only [Row.sz]; omega
  · rcases List.mem_append.mp hq with hq | hq
    · exact (h6 q hq).mono (by omega)
    · exact (g6 q hq).mono (by omega)
theorem Grown.pay {m1 m2 : Nat} {r : Key} {k : Kd} {a b : Row} (hr : RefIn outer base lv r) (fr : HA.fine (kD r) = true) (fk : HA.fine k.d = true) (h : Grown outer base lv m1 a) (h' : Grown outer base (lv + 1) m2 b) (l : m1 + m2 + 1 ≤ m) :
    Grown outer base lv m (.pay r k a b) := by
  obtain ⟨h1, h2, h3, h4, h5, h6⟩ := h
  obtain ⟨g1, g2, g3, g4, g5, g6⟩ := h'
  obtain ⟨k1, k2⟩ := kd_nodes k
  refine ⟨?_, ?_, ?_, ?_, ?_, fun q hq => ?_⟩
  · show (fineS "pay" && (HA.fine (kD r) && (HA.fine k.d && (HA.fine a.d && (HA.fine b.d && true))))) = true
    rw [h1, g1, fr, fk]; decide +kernel
  · simp only [Row.d, HA.nodes, nodesAll, nodes_key, Row.sz]; omega
  · simp only [Row.d, PyData.depth, PyData.depthAll, depth_key, Row.ht]; omega
  · simp only [Row.ht]; omega
  · simp only [Row.sz]; omega
  · rcases List.mem_cons.mp hq with rfl | hq
    · exact hr.mono (by omega)
    · rcases List.mem_append.mp hq with hq | hq
      · exact (h6 q hq).mono (by omega)
      · exact (g6 q hq).mono (by omega)
theorem Grown.cut {m1 m2 : Nat} {k : Kd} {s : Sn} {a b : Row} (fk : HA.fine k.d = true) (fs : HA.fine s.d = true) (ns : HA.nodes s.d ≤ 27) (ds : s.d.depth ≤ 3) (h : Grown outer base lv m1 a) (h' : Grown outer base (lv + 1) m2 b) (l : m1 + m2 + 1 ≤ m) :
    Grown outer base lv m (.cut k s a b) := by
  obtain ⟨h1, h2, h3, h4, h5, h6⟩ := h
  obtain ⟨g1, g2, g3, g4, g5, g6⟩ := h'
  obtain ⟨k1, k2⟩ := kd_nodes k
  refine ⟨?_, ?_, ?_, ?_, ?_, fun q hq => ?_⟩
  · show (fineS "cut" && (HA.fine k.d && (HA.fine s.d && (HA.fine a.d && (HA.fine b.d && true))))) = true
    rw [h1, g1, fs, fk]; decide +kernel
  · simp only [Row.d, HA.nodes, nodesAll, Row.sz]; omega
  · simp only [Row.d, PyData.depth, PyData.depthAll, Row.ht]; omega
  · simp only [Row.ht]; omega
  · simp only [Row.sz]; omega
  · rcases List.mem_append.mp hq with hq | hq
    · exact (h6 q hq).mono (by omega)
    · exact (g6 q hq).mono (by omega)
end
end HA

/-! Derivations drawn. -/
namespace HA
open PySem PySem.Spec PyProof.Rows L2
def stKvs (a b c d e : V) : List (Key × V) := [(.inr "pool", a), (.inr "names", b), (.inr "base", c), (.inr "outer", d), (.inr "most", e)]
theorem st_pool (a b c d e : V) : L2.valV (stKvs a b c d e) (.inr "pool") = some a := by rfl
theorem st_names (a b c d e : V) : L2.valV (stKvs a b c d e) (.inr "names") = some b := by rfl
theorem st_base (a b c d e : V) : L2.valV (stKvs a b c d e) (.inr "base") = some c := by rfl
theorem st_outer (a b c d e : V) : L2.valV (stKvs a b c d e) (.inr "outer") = some d := by rfl
theorem st_most (a b c d e : V) : L2.valV (stKvs a b c d e) (.inr "most") = some e := by rfl
/-- the dict that holds what is drawn from -/
structure Stt (H : Hp) (S l n o : Addr) (names : List Str) (outer : List Key) (base most : Int) : Prop where
  dict : H S = some (.dK (stKvs (.ref l) (.ref n) (.int base) (.ref o) (.int most)))
  hn : H n = some (.lst (names.map V.str))
  ho : H o = some (.lst (outer.map kV))
  pool : Pool H l
  ok : ∀ x ∈ names, NameOk x
  n0 : 0 < names.length
  o0 : 0 < outer.length
  nz : names.length ≤ 1000
  oz : outer.length ≤ 1000
  fr : ∀ r ∈ outer, fine (kD r) = true
  b0 : 0 ≤ base
  ln : n ≠ l
  lo : o ≠ l
namespace Stt
variable {H H' : Hp} {S l n o : Addr} {names : List Str} {outer : List Key} {base most : Int}
theorem kp (st : Stt H S l n o names outer base most) (k : Kp [l] H H') (p : Pool H' l) : Stt H' S l n o names outer base most := by
  have sl : S ≠ l := by
    obtain ⟨a, b, c, e, _⟩ := st.pool
    exact ne_of st.dict e fun z => by cases z
  exact ⟨k _ _ (by simp [sl]) st.dict, k _ _ (by simp [st.ln]) st.hn, k _ _ (by simp [st.lo]) st.ho, p, st.ok, st.n0, st.o0, st.nz, st.oz, st.fr, st.b0, st.ln, st.lo⟩
theorem gPool (st : Stt H S l n o names outer base most) : DGet H S (.str "pool") (some (.ref l)) := DGet.k (k := .inr "pool") st.dict
theorem gNames (st : Stt H S l n o names outer base most) : DGet H S (.str "names") (some (.ref n)) := DGet.k (k := .inr "names") st.dict
theorem gBase (st : Stt H S l n o names outer base most) : DGet H S (.str "base") (some (.int base)) := DGet.k (k := .inr "base") st.dict
theorem gOuter (st : Stt H S l n o names outer base most) : DGet H S (.str "outer") (some (.ref o)) := DGet.k (k := .inr "outer") st.dict
theorem gMost (st : Stt H S l n o names outer base most) : DGet H S (.str "most") (some (.int most)) := DGet.k (k := .inr "most") st.dict
end Stt
section
variable {P : Program} {w : World} {K : PySem.W.Frag} {mg : Str → Option Value} {base : Heap}
def spWord : Sp := fun vs H Q _ => ∃ (S l n o : Addr) (names : List Str) (outer : List Key) (bs most : Int), vs = [.ref S] ∧
  Stt H S l n o names outer bs most ∧ ∀ x H', x ∈ names → Kp [l] H H' → Pool H' l → Q (.str x) H'
theorem ok_word (T : Tx K w mg) {k : Nat} : FnOk P w K mg base CX0 (k + 2) T.a__law_word T.d__law_word ["state"] spWord := by
  have G__law_next := ok_next (P := P) (base := base) T (k := k)
  refine T.F__law_word.ok sc__law_word (fun vs H Q E h => ?_) (fun cdv A outer s H vs Q E hr h => ?_)
  · obtain ⟨S, l, n, o, names, outer, bs, most, rfl, _⟩ := h
    rfl
  obtain ⟨S, l, n, o, names, outer, bs, most, rfl, st, q⟩ := h
  refine ⟨_, (pss_cons (ps_set (i := 1) sc__law_word.nd rfl (Or.inl rfl) (pe_dget (hu_of hr) (pv 0) pe_str (fun _ _ => rfl)))
    (pss_one (ps_ret (pe_ix ix_list (pv 1) (pe_call (G__law_next) hr (by rfl) T.g__law_next T.k__law_next T.b__law_next .nil pass0 (pa_cons (pe_dget (hu_of hr) (pv 0) pe_str (fun _ _ => rfl)) (pa_cons (pe_callB call_len_seq (by rfl) T.z_len (by decide +kernel) (pa_cons (pv 1) pa_nil)) pa_nil))) (fun _ _ => rfl))))), ?_⟩
  refine ⟨_, rfl, S, .ref n, rfl, st.gNames, ?_⟩
  have nz := st.nz
  have n0 := st.n0
  refine ⟨_, rfl, _, rfl, S, .ref l, rfl, st.gPool, _, rfl, n, _, rfl, .inl (SqL.of st.hn), l, _, rfl, st.pool, by rw [List.length_map]; omega, by rw [List.length_map]; omega, fun d H1 d0 d1 k1 p1 => ?_⟩
  obtain ⟨i, rfl⟩ := Int.eq_ofNat_of_zero_le d0
  rw [List.length_map] at d1
  have hi : i < names.length := by omega
  refine ⟨n, _, (i : Int), .str names[i], rfl, rfl, SqL.of (st.kp k1 p1).hn, atI_nat ?_, q _ _ (List.getElem_mem hi) k1 p1⟩
  rw [List.getElem?_map, List.getElem?_eq_getElem hi]; rfl
/-- a kind that has room -/
def KdIn (room : Int) : Kd → Prop
  | .once => True
  | .st n k => 1 ≤ n ∧ n ≤ room ∧ n ≤ 400 ∧ 0 ≤ k ∧ k ≤ 100
theorem KdIn.fine {room : Int} {k : Kd} (h : KdIn room k) : HA.fine k.d = true := by
  cases k with
  | once => show fineS "once" = true; decide +kernel
  | st n k =>
    obtain ⟨h1, h2, h3, h4, h5⟩ := h
    show (decide (n.natAbs < 1000000000) && (decide (k.natAbs < 1000000000) && true)) = true
    rw [decide_eq_true (show n.natAbs < 1000000000 by omega), decide_eq_true (show k.natAbs < 1000000000 by omega)]
    rfl
def spMode (K : PySem.W.Frag) : Sp := fun vs H Q _ => ∃ (l : Addr) (room : Int), vs = [.ref l, .int room] ∧ Pool H l ∧ 1 ≤ room ∧
  ∀ v k H', KdIn room k → Dp K H' v k.d → Kp [l] H H' → Pool H' l → Q v H'
theorem ok_mode (T : Tx K w mg) {k : Nat} : FnOk P w K mg base CX0 (k + 2) T.a__law_mode T.d__law_mode ["pool", "room"] (spMode K) := by
  have G__law_next := ok_next (P := P) (base := base) T (k := k)
  refine T.F__law_mode.ok sc__law_mode (fun vs H Q E h => ?_) (fun cdv A outer s H vs Q E hr h => ?_)
  · obtain ⟨l, room, rfl, _⟩ := h
    rfl
  obtain ⟨l, room, rfl, hp, h1, q⟩ := h
  refine ⟨_, (pss_cons (ps_if (pt_cmpR op_eq (pe_call (G__law_next) hr (by rfl) T.g__law_next T.k__law_next T.b__law_next .nil pass0 (pa_cons (pv 0) (pa_cons pe_int pa_nil))) pe_int (nomark _))
      (pss_one (ps_ret pe_str))
      pss_nil)
    (pss_cons (ps_set (i := 2) sc__law_mode.nd rfl (Or.inl rfl) (pe_callB (call_min2 rfl) (by rfl) T.z_min (by decide +kernel) (pa_cons (pv 1) (pa_cons (pe_ix ix_list (pe_lstN (pa_cons pe_int (pa_cons pe_int (pa_cons pe_int (pa_cons pe_int pa_nil))))) (pe_call (G__law_next) hr (by rfl) T.g__law_next T.k__law_next T.b__law_next .nil pass0 (pa_cons (pv 0) (pa_cons pe_int pa_nil))) (fun _ _ => rfl)) pa_nil))))
    (pss_one (ps_ret (pe_tupN (pa_cons (pe_op op_add pe_int (pe_call (G__law_next) hr (by rfl) T.g__law_next T.k__law_next T.b__law_next .nil pass0 (pa_cons (pv 0) (pa_cons (pv 2) pa_nil)))) (pa_cons (pe_call (G__law_next) hr (by rfl) T.g__law_next T.k__law_next T.b__law_next .nil pass0 (pa_cons (pv 0) (pa_cons pe_int pa_nil))) pa_nil))))))), ?_⟩
  refine ⟨_, rfl, l, 2, rfl, hp, by decide, by decide, fun d H1 d0 d1 k1 p1 => ⟨rfl, _, rfl, iteB (fun e1 => ?_) fun e1 => ?_⟩⟩
  · exact q _ .once H1 trivial (.str _) k1 p1
  refine ⟨_, rfl, by decide, fun H2 b s2 nb hb => ?_⟩
  have p2 := p1.kp (S := []) (by simp) (Kp.of s2)
  refine ⟨_, rfl, l, 4, rfl, p2, by decide, by decide, fun e H3 e0 e1 k3 p3 => ?_⟩
  have hbl : b ∉ [l] := fun m => by
    obtain ⟨x, y, z, e, _⟩ := p1
    cases m with
    | head => rw [e] at nb; cases nb
    | tail _ m => cases m
  have cn : ∃ m : Int, 1 ≤ m ∧ m ≤ 400 ∧ atI [V.int 400, V.int 3, V.int 3, V.int 3] e = some (.int m) := by
    have : e = 0 ∨ e = 1 ∨ e = 2 ∨ e = 3 := by omega
    rcases this with rfl | rfl | rfl | rfl
    · exact ⟨400, by decide, by decide, rfl⟩
    · exact ⟨3, by decide, by decide, rfl⟩
    · exact ⟨3, by decide, by decide, rfl⟩
    · exact ⟨3, by decide, by decide, rfl⟩
  obtain ⟨m, m1, m2, hat⟩ := cn
  refine ⟨b, _, e, _, rfl, rfl, SqL.of (k3 _ _ hbl hb), hat, room, m, rfl, ?_⟩
  have mm : 1 ≤ (if m < room then m else room) ∧ (if m < room then m else room) ≤ room ∧ (if m < room then m else room) ≤ 400 := by split <;> omega
  revert mm
  generalize (if m < room then m else room) = r
  rintro ⟨r1, r2, r3⟩
  refine ⟨_, rfl, _, rfl, l, r, rfl, p3, by omega, by omega, fun f H4 f0 f1 k4 p4 => ?_⟩
  refine ⟨_, _, rfl, rfl, _, rfl, l, 101, rfl, p4, by decide, by decide, fun g H5 g0 g1 k5 p5 => ⟨(by show 2 ≤ 1000; decide), fun H6 c s6 nc hc => ?_⟩⟩
  refine q _ (.st (1 + f) g) H6 ⟨by omega, by omega, by omega, g0, by omega⟩ (.tup (SqT.of hc) (.cons (.int _) (.cons (.int _) .nil))) ?_ ?_
  · exact ((((k1.trans (Kp.of s2)).trans k3).trans k4).trans k5).trans (Kp.of s6)
  · exact p5.kp (S := []) (by simp) (Kp.of s6)
def spSent (K : PySem.W.Frag) (N : Nat) : Sp := fun vs H Q _ => ∃ (S l n o : Addr) (names : List Str) (outer : List Key) (bs most : Int) (dep : Nat), vs = [.ref S, .int (dep : Int)] ∧
  dep < N ∧ Stt H S l n o names outer bs most ∧
  ∀ v s H', Dp K H' v (Sn.d s) → fine s.d = true → nodes s.d + 5 ≤ 8 * 2 ^ dep → s.d.depth ≤ dep + 1 → Kp [l] H H' → Pool H' l → Q v H'
theorem sent_step (T : Tx K w mg) {N : Nat} (G__law_sentence : FnOk P w K mg base CX0 (N + 3) T.a__law_sentence T.d__law_sentence ["state", "depth"] (spSent K N)) :
    FnOk P w K mg base CX0 (N + 4) T.a__law_sentence T.d__law_sentence ["state", "depth"] (spSent K (N + 1)) := by
  have G__law_next := ok_next (P := P) (base := base) T (k := N + 2)
  have G__law_word := ok_word (P := P) (base := base) T (k := N + 1)
  have G__law_mode := ok_mode (P := P) (base := base) T (k := N + 1)
  refine T.F__law_sentence.ok sc__law_sentence (fun vs H Q E h => ?_) (fun cdv A outer s H vs Q E hr h => ?_)
  · obtain ⟨S, l, n, o, names, outer, bs, most, dep, rfl, _⟩ := h
    rfl
  obtain ⟨S, l, n, o, names, outer, bs, most, dep, rfl, hd, st, q⟩ := h
  refine ⟨_, (pss_cons (ps_set (i := 2) sc__law_sentence.nd rfl (Or.inl rfl) (pe_dget (hu_of hr) (pv 0) pe_str (fun _ _ => rfl)))
    (pss_cons (ps_set (i := 3) sc__law_sentence.nd rfl (Or.inl rfl) (pe_call (G__law_next) hr (by rfl) T.g__law_next T.k__law_next T.b__law_next .nil pass0 (pa_cons (pv 2) (pa_cons pe_int pa_nil))))
    (pss_cons (ps_if (PW.pt (pw_or (pt_cmpR op_le (pv 1) pe_int (nomark _)) (pw_or1 (pt_cmpR op_lt (pv 3) pe_int (nomark _)))))
      (pss_one (ps_ret (pe_tupN (pa_cons pe_str (pa_cons (pe_call (G__law_word) hr (by rfl) T.g__law_word T.k__law_word T.b__law_word .nil pass0 (pa_cons (pv 0) pa_nil)) pa_nil)))))
      pss_nil)
    (pss_cons (ps_set (i := 4) sc__law_sentence.nd rfl (Or.inl rfl) (pe_call (G__law_sentence) hr (by rfl) T.g__law_sentence T.k__law_sentence T.b__law_sentence .nil pass0 (pa_cons (pv 0) (pa_cons (pe_op op_sub (pv 1) pe_int) pa_nil))))
    (pss_cons (ps_set (i := 5) sc__law_sentence.nd rfl (Or.inl rfl) (pe_call (G__law_sentence) hr (by rfl) T.g__law_sentence T.k__law_sentence T.b__law_sentence .nil pass0 (pa_cons (pv 0) (pa_cons (pe_op op_sub (pv 1) pe_int) pa_nil))))
    (pss_cons (ps_if (pt_cmpR op_eq (pv 3) pe_int (nomark _))
      (pss_one (ps_ret (pe_tupN (pa_cons pe_str (pa_cons (pv 4) (pa_cons (pv 5) pa_nil))))))
      pss_nil)
    (pss_one (ps_ret (pe_tupN (pa_cons pe_str (pa_cons (pe_call (G__law_mode) hr (by rfl) T.g__law_mode T.k__law_mode T.b__law_mode .nil pass0 (pa_cons (pv 2) (pa_cons pe_int pa_nil))) (pa_cons (pv 4) (pa_cons (pv 5) pa_nil))))))))))))), ?_⟩
  refine ⟨_, rfl, S, .ref l, rfl, st.gPool, ?_⟩
  refine ⟨_, rfl, l, 6, rfl, st.pool, by decide, by decide, fun d H1 d0 d1 k1 p1 => ?_⟩
  have st1 := st.kp k1 p1
  refine ⟨_, rfl, _, _, rfl, rfl, _, rfl, iteB (fun e1 => iteT ?_) fun e1 => ⟨_, rfl, _, _, rfl, rfl, _, rfl, iteB (fun e2 => ?_) fun e2 => ?_⟩⟩
  rotate_right
  · -- two sides
    have e3 : 0 < dep := by
      have : ¬ ((dep : Int) ≤ 0) := of_decide_eq_false e1
      omega
    have e4 : (dep : Int) - 1 = ((dep - 1 : Nat) : Int) := by omega
    have pw : 8 * 2 ^ dep = 2 * (8 * 2 ^ (dep - 1)) := by
      obtain ⟨c, rfl⟩ : ∃ c, dep = c + 1 := ⟨dep - 1, by omega⟩
      rw [Nat.add_sub_cancel, Nat.pow_succ]
      omega
    refine ⟨_, rfl, _, rfl, _, _, rfl, rfl, S, l, n, o, names, outer, bs, most, dep - 1, congrArg (fun z => [V.ref S, V.int z]) e4, by omega, st1, fun v1 s1 H2 a1 a2 a3 a4 k2 p2 => ?_⟩
    have st2 := st1.kp k2 p2
    refine ⟨_, rfl, _, rfl, _, _, rfl, rfl, S, l, n, o, names, outer, bs, most, dep - 1, congrArg (fun z => [V.ref S, V.int z]) e4, by omega, st2, fun v2 s2 H3 b1 b2 b3 b4 k3 p3 => ?_⟩
    have a1' := Dp.kp k3 st2.pool.lsts _ _ s1.tu a1
    refine ⟨_, rfl, rfl, _, rfl, iteB (fun e5 => ?_) fun e5 => ?_⟩
    · refine ⟨_, rfl, _, rfl, (by show 3 ≤ 1000; decide), fun H4 c s4 nc hc => ?_⟩
      refine q _ (.menu s1 s2) H4 (.tup (SqT.of hc) (.cons (.str _) (.cons (Dp.sm s4 _ _ a1') (.cons (Dp.sm s4 _ _ b1) .nil)))) ?_ ?_ ?_ (((k1.trans k2).trans k3).trans (Kp.of s4)) (p3.kp (S := []) (by simp) (Kp.of s4))
      · show (fineS "menu" && (fine s1.d && (fine s2.d && true))) = true
        rw [a2, b2]; decide +kernel
      · simp only [Sn.d, nodes, nodesAll]; omega
      · simp only [Sn.d, PyData.depth, PyData.depthAll]; omega
    · refine ⟨_, rfl, l, 600, rfl, p3, by decide, fun v3 kd H4 c1 c2 k4 p4 => ?_⟩
      refine ⟨_, rfl, _, rfl, (by show 4 ≤ 1000; decide), fun H5 c s5 nc hc => ?_⟩
      have l3 := p3.lsts
      obtain ⟨kn, kdp⟩ := kd_nodes kd
      refine q _ (.trade kd s1 s2) H5 (.tup (SqT.of hc) (.cons (.str _) (.cons (Dp.sm s5 _ _ c2) (.cons (Dp.sm s5 _ _ (Dp.kp k4 l3 _ _ s1.tu a1')) (.cons (Dp.sm s5 _ _ (Dp.kp k4 l3 _ _ s2.tu b1)) .nil))))) ?_ ?_ ?_
        ((((k1.trans k2).trans k3).trans k4).trans (Kp.of s5)) (p4.kp (S := []) (by simp) (Kp.of s5))
      · show (fineS "trade" && (fine kd.d && (fine s1.d && (fine s2.d && true)))) = true
        rw [a2, b2, c1.fine]; decide +kernel
      · simp only [Sn.d, nodes, nodesAll]; omega
      · simp only [Sn.d, PyData.depth, PyData.depthAll]; omega
  all_goals
    refine ⟨_, rfl, S, l, n, o, names, outer, bs, most, rfl, st1, fun x H2 hx k2 p2 => ⟨(by show 2 ≤ 1000; decide), fun H3 c s3 nc hc => ?_⟩⟩
    refine q _ (.word x) H3 (.tup (SqT.of hc) (.cons (.str _) (.cons (.str _) .nil))) ?_ ?_ ?_ ((k1.trans k2).trans (Kp.of s3)) (p2.kp (S := []) (by simp) (Kp.of s3))
    · show (fineS "word" && (fineS x && true)) = true
      rw [fineS_name (st.ok x hx)]; decide +kernel
    · have : 1 ≤ 2 ^ dep := Nat.one_le_two_pow
      simp only [Sn.d, nodes, nodesAll]; omega
    · simp only [Sn.d, PyData.depth, PyData.depthAll]; omega
theorem ok_sent (T : Tx K w mg) : ∀ N : Nat, FnOk P w K mg base CX0 (N + 3) T.a__law_sentence T.d__law_sentence ["state", "depth"] (spSent K N)
  | 0 => by
    have no : ∀ vs H Q E, ¬ spSent K 0 vs H Q E := fun vs H Q E h => by
      obtain ⟨S, l, n, o, names, outer, bs, most, dep, _, hd, _⟩ := h
      omega
    exact ⟨fun vs H Q E h => absurd h (no vs H Q E), fun A outer s H args us vs Q E _ _ _ _ h => absurd h (no vs H Q E)⟩
  | N + 1 => sent_step T (ok_sent T N)
def spRef : Sp := fun vs H Q _ => ∃ (S l n o : Addr) (names : List Str) (outer : List Key) (bs most lv : Int), vs = [.ref S, .int lv] ∧
  Stt H S l n o names outer bs most ∧ bs ≤ lv ∧ lv < 1000000000 ∧ ∀ r H', RefIn outer bs lv r → Kp [l] H H' → Pool H' l → Q (kV r) H'
theorem ok_ref (T : Tx K w mg) {k : Nat} : FnOk P w K mg base CX0 (k + 2) T.a__law_ref T.d__law_ref ["state", "level"] spRef := by
  have G__law_next := ok_next (P := P) (base := base) T (k := k)
  refine T.F__law_ref.ok sc__law_ref (fun vs H Q E h => ?_) (fun cdv A outer s H vs Q E hr h => ?_)
  · obtain ⟨S, l, n, o, names, outer, bs, most, lv, rfl, _⟩ := h
    rfl
  obtain ⟨S, l, n, o, names, outer, bs, most, lv, rfl, st, b1, b2, q⟩ := h
  have b0 := st.b0
  refine ⟨_, (pss_cons (ps_set (i := 2) sc__law_ref.nd rfl (Or.inl rfl) (pe_dget (hu_of hr) (pv 0) pe_str (fun _ _ => rfl)))
    (pss_cons (ps_set (i := 3) sc__law_ref.nd rfl (Or.inl rfl) (pe_op op_sub (pv 1) (pe_dget (hu_of hr) (pv 0) pe_str (fun _ _ => rfl))))
    (pss_cons (ps_if (PW.pt (pw_and (pt_cmpR op_gt (pv 3) pe_int (nomark _)) (pw_and1 (pt_cmpR op_eq (pe_call (G__law_next) hr (by rfl) T.g__law_next T.k__law_next T.b__law_next .nil pass0 (pa_cons (pv 2) (pa_cons pe_int pa_nil))) pe_int (nomark _)))))
      (pss_one (ps_ret (pe_op op_sub (pe_op op_sub (pv 1) pe_int) (pe_call (G__law_next) hr (by rfl) T.g__law_next T.k__law_next T.b__law_next .nil pass0 (pa_cons (pv 2) (pa_cons (pv 3) pa_nil))))))
      pss_nil)
    (pss_cons (ps_set (i := 4) sc__law_ref.nd rfl (Or.inl rfl) (pe_dget (hu_of hr) (pv 0) pe_str (fun _ _ => rfl)))
    (pss_one (ps_ret (pe_ix ix_list (pv 4) (pe_call (G__law_next) hr (by rfl) T.g__law_next T.k__law_next T.b__law_next .nil pass0 (pa_cons (pv 2) (pa_cons (pe_callB call_len_seq (by rfl) T.z_len (by decide +kernel) (pa_cons (pv 4) pa_nil)) pa_nil))) (fun _ _ => rfl)))))))), ?_⟩
  refine ⟨_, rfl, S, .ref l, rfl, st.gPool, ?_⟩
  refine ⟨_, rfl, _, rfl, S, .int bs, rfl, st.gBase, _, _, rfl, rfl, ?_⟩
  have out : ∀ H1, Kp [l] H H1 → Pool H1 l → ∀ y4 : Option V, tSeq (tAsg (tDGet (tVar 0) (tC (.str "outer"))) (gName 4))
      (tRet (tOp (rIxL K) (tVar 4) (tCall spNext [] E0 (tCons (tVar 2) (tCons (tCB (fun xs H Q => ∃ p ys, xs = [.ref p] ∧ (SqL K H p ys ∨ SqT K H p ys) ∧ Q (.int ys.length) H) (tCons (tVar 4) tNil)) tNil)))))
      { nx := fun x H' => Q V.non H', rt := Q } [some (.ref S), some (.int lv), some (.ref l), some (.int (lv - bs)), y4] H1 := fun H1 k1 p1 y4 => by
    have st1 := st.kp k1 p1
    have oz := st.oz
    have o0 := st.o0
    refine ⟨_, rfl, S, .ref o, rfl, st1.gOuter, ?_⟩
    refine ⟨_, rfl, _, rfl, _, rfl, o, _, rfl, .inl (SqL.of st1.ho), l, _, rfl, p1, by rw [List.length_map]; omega, by rw [List.length_map]; omega, fun d H2 d0 d1 k2 p2 => ?_⟩
    obtain ⟨i, rfl⟩ := Int.eq_ofNat_of_zero_le d0
    rw [List.length_map] at d1
    have hi : i < outer.length := by omega
    refine ⟨o, _, (i : Int), kV outer[i], rfl, rfl, SqL.of (st1.kp k2 p2).ho, atI_nat ?_, q _ _ (.inl (List.getElem_mem hi)) (k1.trans k2) p2⟩
    rw [List.getElem?_map, List.getElem?_eq_getElem hi]; rfl
  refine ⟨_, rfl, _, _, rfl, rfl, _, rfl, iteB (fun e1 => ?_) fun e1 => iteF ?_⟩
  · have e1' : (0 : Int) < lv - bs := of_decide_eq_true e1
    refine ⟨_, rfl, l, 2, rfl, st.pool, by decide, by decide, fun d H1 d0 d1 k1 p1 => ⟨rfl, _, rfl, iteB (fun e2 => ?_) fun e2 => ?_⟩⟩
    · refine ⟨_, rfl, _, _, rfl, rfl, _, rfl, _, rfl, l, lv - bs, rfl, p1, e1', by omega, fun f H2 f0 f1 k2 p2 => ⟨_, _, rfl, rfl, ?_⟩⟩
      exact q (.inl (lv - 1 - f)) H2 (.inr ⟨_, rfl, by omega, by omega⟩) (k1.trans k2) p2
    · exact out H1 k1 p1 _
  · exact out H (Kp.refl _) st.pool _
end
end HA

/-! The whole derivation drawn. -/
namespace HA
open PySem PySem.Spec PyProof.Rows L2
theorem RefIn.fine {outer : List Key} {base hi : Int} {r : Key} (h : RefIn outer base hi r) (f : ∀ r ∈ outer, HA.fine (kD r) = true) (b : 0 ≤ base) (l : hi ≤ 1000000) : HA.fine (kD r) = true := by
  rcases h with h | ⟨i, rfl, h1, h2⟩
  · exact f r h
  · show decide (i.natAbs < 1000000000) = true
    exact decide_eq_true (by omega)
section
variable {P : Program} {w : World} {K : PySem.W.Frag} {mg : Str → Option Value} {base : Heap}
def spGrow (K : PySem.W.Frag) (N : Nat) : Sp := fun vs H Q _ => ∃ (S l n o : Addr) (names : List Str) (outer : List Key) (bs most lv room : Int) (m : Nat),
  vs = [.ref S, .int lv, .int room, .int (m : Int)] ∧ m < N ∧ Stt H S l n o names outer bs most ∧ bs ≤ lv ∧ lv + m ≤ 1000000 ∧ 1 ≤ room ∧ room < 1073741824 ∧
  ∀ v t H', Dp K H' v (Row.d t) → Grown outer bs lv m t → Kp [l] H H' → Pool H' l → Q v H'
theorem grow_step (T : Tx K w mg) {N : Nat} (G__law_grow : FnOk P w K mg base CX0 (N + 6) T.a__law_grow T.d__law_grow ["state", "level", "room", "many"] (spGrow K N)) :
    FnOk P w K mg base CX0 (N + 7) T.a__law_grow T.d__law_grow ["state", "level", "room", "many"] (spGrow K (N + 1)) := by
  have G__law_next := ok_next (P := P) (base := base) T (k := N + 5)
  have G__law_word := ok_word (P := P) (base := base) T (k := N + 4)
  have G__law_mode := ok_mode (P := P) (base := base) T (k := N + 4)
  have G__law_ref := ok_ref (P := P) (base := base) T (k := N + 4)
  have G__law_sentence := (ok_sent (P := P) (base := base) T 3).mono (show 3 + 3 ≤ N + 6 by omega)
  refine T.F__law_grow.ok sc__law_grow (fun vs H Q E h => ?_) (fun cdv A outer s H vs Q E hr h => ?_)
  · obtain ⟨S, l, n, o, names, outer, bs, most, lv, room, m, rfl, _⟩ := h
    rfl
  obtain ⟨S, l, n, o, names, outer, bs, most, lv, room, m, rfl, hm, st, hl, hz, r1, r2, q⟩ := h
  have b0 := st.b0
  have fref : ∀ r, RefIn outer bs lv r → fine (kD r) = true := fun r h => h.fine st.fr b0 (by omega)
  have fname : ∀ x ∈ names, fineS x = true := fun x h => fineS_name (st.ok x h)
  refine ⟨_, (pss_cons (ps_set (i := 4) sc__law_grow.nd rfl (Or.inl rfl) (pe_dget (hu_of hr) (pv 0) pe_str (fun _ _ => rfl)))
    (pss_cons (ps_set (i := 5) sc__law_grow.nd rfl (Or.inl rfl) (pe_call (G__law_next) hr (by rfl) T.g__law_next T.k__law_next T.b__law_next .nil pass0 (pa_cons (pv 4) (pa_cons pe_int pa_nil))))
    (C8.pss_cut (ps_if (PW.pt (pw_or (pt_cmpR op_le (pv 3) pe_int (nomark _)) (pw_or1 (PW.pt (pw_and (pt_cmpR op_eq (pv 5) pe_int (nomark _)) (pw_and1 (pt_cmpR op_lt (pv 3) (pe_dget (hu_of hr) (pv 0) pe_str (fun _ _ => rfl)) (nomark _))))))))
      (pss_cons (ps_if (pt_cmpR op_eq (pe_call (G__law_next) hr (by rfl) T.g__law_next T.k__law_next T.b__law_next .nil pass0 (pa_cons (pv 4) (pa_cons pe_int pa_nil))) pe_int (nomark _))
        (pss_one (ps_ret (pe_tupN (pa_cons pe_str (pa_cons (pe_call (G__law_word) hr (by rfl) T.g__law_word T.k__law_word T.b__law_word .nil pass0 (pa_cons (pv 0) pa_nil)) pa_nil)))))
        pss_nil)
      (pss_one (ps_ret (pe_tupN (pa_cons pe_str (pa_cons (pe_call (G__law_ref) hr (by rfl) T.g__law_ref T.k__law_ref T.b__law_ref .nil pass0 (pa_cons (pv 0) (pa_cons (pv 1) pa_nil))) pa_nil))))))
      pss_nil)
    (pss_cons (ps_if (pt_cmpR op_eq (pv 5) pe_int (nomark _))
      (pss_one (ps_ret (pe_tupN (pa_cons pe_str (pa_cons (pe_call (G__law_grow) hr (by rfl) T.g__law_grow T.k__law_grow T.b__law_grow .nil pass0 (pa_cons (pv 0) (pa_cons (pe_op op_add (pv 1) pe_int) (pa_cons (pv 2) (pa_cons (pe_op op_sub (pv 3) pe_int) pa_nil))))) pa_nil)))))
      pss_nil)
    (pss_cons (ps_if (pt_cmpR op_eq (pv 5) pe_int (nomark _))
      (pss_one (ps_ret (pe_tupN (pa_cons pe_str (pa_cons (pe_call (G__law_word) hr (by rfl) T.g__law_word T.k__law_word T.b__law_word .nil pass0 (pa_cons (pv 0) pa_nil)) (pa_cons (pe_call (G__law_next) hr (by rfl) T.g__law_next T.k__law_next T.b__law_next .nil pass0 (pa_cons (pv 4) (pa_cons pe_int pa_nil))) (pa_cons (pe_call (G__law_grow) hr (by rfl) T.g__law_grow T.k__law_grow T.b__law_grow .nil pass0 (pa_cons (pv 0) (pa_cons (pv 1) (pa_cons (pv 2) (pa_cons (pe_op op_sub (pv 3) pe_int) pa_nil))))) pa_nil)))))))
      pss_nil)
    (pss_cons (ps_if (pt_cmpR op_eq (pv 5) pe_int (nomark _))
      (pss_cons (ps_set (i := 6) sc__law_grow.nd rfl (Or.inl rfl) (pe_call (G__law_ref) hr (by rfl) T.g__law_ref T.k__law_ref T.b__law_ref .nil pass0 (pa_cons (pv 0) (pa_cons (pv 1) pa_nil))))
      (pss_one (ps_ret (pe_tupN (pa_cons pe_str (pa_cons (pv 6) (pa_cons (pe_ix ix_list (pe_lstN (pa_cons pe_str (pa_cons pe_str pa_nil))) (pe_call (G__law_next) hr (by rfl) T.g__law_next T.k__law_next T.b__law_next .nil pass0 (pa_cons (pv 4) (pa_cons pe_int pa_nil))) (fun _ _ => rfl)) (pa_cons (pe_call (G__law_grow) hr (by rfl) T.g__law_grow T.k__law_grow T.b__law_grow .nil pass0 (pa_cons (pv 0) (pa_cons (pe_op op_add (pv 1) pe_int) (pa_cons (pv 2) (pa_cons (pe_op op_sub (pv 3) pe_int) pa_nil))))) pa_nil))))))))
      pss_nil)
    (pss_cons (ps_if (pt_cmpR op_eq (pv 5) pe_int (nomark _))
      (pss_cons (ps_set (i := 7) sc__law_grow.nd rfl (Or.inl rfl) (pe_tupN (pa_cons pe_str (pa_cons (pe_call (G__law_ref) hr (by rfl) T.g__law_ref T.k__law_ref T.b__law_ref .nil pass0 (pa_cons (pv 0) (pa_cons (pv 1) pa_nil))) (pa_cons (pe_call (G__law_word) hr (by rfl) T.g__law_word T.k__law_word T.b__law_word .nil pass0 (pa_cons (pv 0) pa_nil)) (pa_cons (pe_call (G__law_next) hr (by rfl) T.g__law_next T.k__law_next T.b__law_next .nil pass0 (pa_cons (pv 4) (pa_cons pe_int pa_nil))) pa_nil))))))
      (pss_one (ps_ret (pe_op op_catN (pv 7) (pe_tupN (pa_cons (pe_call (G__law_grow) hr (by rfl) T.g__law_grow T.k__law_grow T.b__law_grow .nil pass0 (pa_cons (pv 0) (pa_cons (pe_op op_add (pv 1) pe_int) (pa_cons (pv 2) (pa_cons (pe_op op_sub (pv 3) pe_int) pa_nil))))) pa_nil))))))
      pss_nil)
    (pss_cons (ps_set (i := 8) sc__law_grow.nd rfl (Or.inl rfl) (pe_call (G__law_next) hr (by rfl) T.g__law_next T.k__law_next T.b__law_next .nil pass0 (pa_cons (pv 4) (pa_cons (pv 3) pa_nil))))
    (pss_cons (ps_set (i := 9) sc__law_grow.nd rfl (Or.inl rfl) (pe_op op_sub (pe_op op_sub (pv 3) pe_int) (pv 8)))
    (pss_cons (ps_if (pt_cmpR op_eq (pv 5) pe_int (nomark _))
      (pss_one (ps_ret (pe_tupN (pa_cons pe_str (pa_cons (pe_call (G__law_grow) hr (by rfl) T.g__law_grow T.k__law_grow T.b__law_grow .nil pass0 (pa_cons (pv 0) (pa_cons (pv 1) (pa_cons (pv 2) (pa_cons (pv 8) pa_nil))))) (pa_cons (pe_call (G__law_grow) hr (by rfl) T.g__law_grow T.k__law_grow T.b__law_grow .nil pass0 (pa_cons (pv 0) (pa_cons (pv 1) (pa_cons (pv 2) (pa_cons (pv 9) pa_nil))))) pa_nil))))))
      pss_nil)
    (pss_cons (ps_set (i := 10) sc__law_grow.nd rfl (Or.inl rfl) (pe_call (G__law_mode) hr (by rfl) T.g__law_mode T.k__law_mode T.b__law_mode .nil pass0 (pa_cons (pv 4) (pa_cons (pv 2) pa_nil))))
    (pss_cons (ps_set (i := 11) sc__law_grow.nd rfl (Or.inl rfl) (pv 2))
    (C8.pss_cut (ps_if (pt_cmpR (op_neD hr.units) (pv 10) pe_str (nomark _))
      (pss_one (ps_set (i := 11) sc__law_grow.nd rfl (Or.inl rfl) (pe_op op_fdiv (pv 2) (pe_ix ix_tup (pv 10) pe_int (fun _ _ => rfl)))))
      pss_nil)
    (C8.pss_cut (ps_if (pt_cmpR op_lt (pv 5) pe_int (nomark _))
      (pss_one (ps_set (i := 7) sc__law_grow.nd rfl (Or.inl rfl) (pe_tupN (pa_cons pe_str (pa_cons (pe_call (G__law_ref) hr (by rfl) T.g__law_ref T.k__law_ref T.b__law_ref .nil pass0 (pa_cons (pv 0) (pa_cons (pv 1) pa_nil))) (pa_cons (pv 10) (pa_cons (pe_call (G__law_grow) hr (by rfl) T.g__law_grow T.k__law_grow T.b__law_grow .nil pass0 (pa_cons (pv 0) (pa_cons (pv 1) (pa_cons (pv 11) (pa_cons (pv 8) pa_nil))))) pa_nil)))))))
      (pss_one (ps_set (i := 7) sc__law_grow.nd rfl (Or.inl rfl) (pe_tupN (pa_cons pe_str (pa_cons (pv 10) (pa_cons (pe_call (G__law_sentence) hr (by rfl) T.g__law_sentence T.k__law_sentence T.b__law_sentence .nil pass0 (pa_cons (pv 0) (pa_cons pe_int pa_nil))) (pa_cons (pe_call (G__law_grow) hr (by rfl) T.g__law_grow T.k__law_grow T.b__law_grow .nil pass0 (pa_cons (pv 0) (pa_cons (pv 1) (pa_cons (pv 11) (pa_cons (pv 8) pa_nil))))) pa_nil))))))))
    (pss_one (ps_ret (pe_op op_catN (pv 7) (pe_tupN (pa_cons (pe_call (G__law_grow) hr (by rfl) T.g__law_grow T.k__law_grow T.b__law_grow .nil pass0 (pa_cons (pv 0) (pa_cons (pe_op op_add (pv 1) pe_int) (pa_cons (pv 2) (pa_cons (pv 9) pa_nil))))) pa_nil))))))))))))))))))), ?_⟩
  refine ⟨_, rfl, S, .ref l, rfl, st.gPool, ?_⟩
  refine ⟨_, rfl, l, 10, rfl, st.pool, by decide, by decide, fun d H1 d0 d1 k1 p1 => ?_⟩
  have st1 := st.kp k1 p1
  refine ⟨fun σ' H' => σ' = [some (.ref S), some (.int lv), some (.int room), some (.int (m : Int)), some (.ref l), some (.int d), none, none, none, none, none, none] ∧ H' = H1 ∧ 0 < m, ?_, ?_⟩
  · refine ⟨_, rfl, _, _, rfl, rfl, _, rfl, iteB (fun e1 => iteT ?_) (fun e1 => ⟨_, rfl, rfl, _, rfl, iteB (fun e2 => ⟨_, rfl, _, rfl, S, .int most, rfl, st1.gMost, _, _, rfl, rfl, _, rfl, iteB (fun e3 => ?_) (fun e3 => ?_)⟩) (fun e2 => iteF ?_)⟩)⟩
    rotate_left 2
    · exact ⟨rfl, rfl, by have : ¬ ((m : Int) ≤ 0) := of_decide_eq_false e1; omega⟩
    · exact ⟨rfl, rfl, by have : ¬ ((m : Int) ≤ 0) := of_decide_eq_false e1; omega⟩
    all_goals
      refine ⟨_, rfl, l, 4, rfl, p1, by decide, by decide, fun e H2 e0 e1 k2 p2 => ⟨rfl, _, rfl, iteB (fun _ => ?_) (fun _ => ?_)⟩⟩
      · refine ⟨_, rfl, S, l, n, o, names, outer, bs, most, rfl, st1.kp k2 p2, fun x H3 hx k3 p3 => ⟨(by show 2 ≤ 1000; decide), fun H4 c s4 nc hc => ?_⟩⟩
        exact q _ (.cite x) H4 (.tup (SqT.of hc) (.cons (.str _) (.cons (.str _) .nil))) (Grown.cite (fname x hx)) (((k1.trans k2).trans k3).trans (Kp.of s4)) (p3.kp (S := []) (by simp) (Kp.of s4))
      · refine ⟨_, rfl, _, rfl, S, l, n, o, names, outer, bs, most, lv, rfl, st1.kp k2 p2, hl, by omega, fun r H3 hr k3 p3 => ⟨(by show 2 ≤ 1000; decide), fun H4 c s4 nc hc => ?_⟩⟩
        exact q _ (.own r) H4 (.tup (SqT.of hc) (.cons (.str _) (.cons (Dp.key r) .nil))) (Grown.own hr (fref r hr)) (((k1.trans k2).trans k3).trans (Kp.of s4)) (p3.kp (S := []) (by simp) (Kp.of s4))
  rintro σ' H' ⟨rfl, eH, m0⟩
  have eH' := eH.symm
  subst eH'
  have e4 : (m : Int) - 1 = ((m - 1 : Nat) : Int) := by omega
  have q1 := fun v t H' (a : Dp K H' v (Row.d t)) g (k : Kp [l] H1 H') p => q v t H' a g (k1.trans k) p
  -- take
  refine ⟨_, rfl, rfl, _, rfl, iteB (fun _ => ?_) (fun _ => ?_)⟩
  · refine ⟨_, rfl, _, rfl, _, _, rfl, rfl, _, rfl, _, rfl, _, _, rfl, rfl, S, l, n, o, names, outer, bs, most, lv + 1, room, m - 1, congrArg (fun z => [V.ref S, V.int (lv + 1), V.int room, V.int z]) e4, by omega, st1, by omega, by omega, r1, r2,
      fun v t H2 a g k2 p2 => ⟨(by show 2 ≤ 1000; decide), fun H3 c s3 nc hc => ?_⟩⟩
    exact q1 _ (.take t) H3 (.tup (SqT.of hc) (.cons (.str _) (.cons (Dp.sm s3 _ _ a) .nil))) (g.take (by omega)) (k2.trans (Kp.of s3)) (p2.kp (S := []) (by simp) (Kp.of s3))
  -- make
  refine ⟨_, rfl, rfl, _, rfl, iteB (fun _ => ?_) (fun _ => ?_)⟩
  · refine ⟨_, rfl, S, l, n, o, names, outer, bs, most, rfl, st1, fun x H2 hx k2 p2 => ?_⟩
    refine ⟨_, rfl, l, 3, rfl, p2, by decide, by decide, fun i H3 i0 i1 k3 p3 => ?_⟩
    refine ⟨_, rfl, _, rfl, _, rfl, _, rfl, _, _, rfl, rfl, S, l, n, o, names, outer, bs, most, lv, room, m - 1, congrArg (fun z => [V.ref S, V.int lv, V.int room, V.int z]) e4, by omega, (st1.kp k2 p2).kp k3 p3, by omega, by omega, r1, r2,
      fun v t H4 a g k4 p4 => ⟨(by show 4 ≤ 1000; decide), fun H5 c s5 nc hc => ?_⟩⟩
    exact q1 _ (.make x i t) H5 (.tup (SqT.of hc) (.cons (.str _) (.cons (.str _) (.cons (.int _) (.cons (Dp.sm s5 _ _ a) .nil))))) (Grown.make (fname x hx) (by omega) g (by omega)) (((k2.trans k3).trans k4).trans (Kp.of s5)) (p4.kp (S := []) (by simp) (Kp.of s5))
  -- pick
  refine ⟨_, rfl, rfl, _, rfl, iteB (fun _ => ?_) (fun _ => ?_)⟩
  · refine ⟨_, rfl, _, rfl, S, l, n, o, names, outer, bs, most, lv, rfl, st1, hl, by omega, fun r H2 hr k2 p2 => ?_⟩
    refine ⟨_, rfl, by decide, fun H3 b s3 nb hb => ?_⟩
    have p3 := p2.kp (S := []) (by simp) (Kp.of s3)
    have hbl : b ∉ [l] := fun z => by
      obtain ⟨x, y, u, e, _⟩ := p2
      cases z with
      | head => rw [e] at nb; cases nb
      | tail _ z => cases z
    refine ⟨_, rfl, l, 2, rfl, p3, by decide, by decide, fun f H4 f0 f1 k4 p4 => ?_⟩
    have sd : ∃ x : Str, fineS x = true ∧ atI [V.str "left", V.str "right"] f = some (.str x) := by
      have : f = 0 ∨ f = 1 := by omega
      rcases this with rfl | rfl
      · exact ⟨"left", by decide +kernel, rfl⟩
      · exact ⟨"right", by decide +kernel, rfl⟩
    obtain ⟨x, fx, hat⟩ := sd
    refine ⟨b, _, f, .str x, rfl, rfl, SqL.of (k4 _ _ hbl hb), hat, ?_⟩
    have k14 : Kp [l] H1 H4 := (k2.trans (Kp.of s3)).trans k4
    refine ⟨_, rfl, _, rfl, _, _, rfl, rfl, _, rfl, _, rfl, _, _, rfl, rfl, S, l, n, o, names, outer, bs, most, lv + 1, room, m - 1, congrArg (fun z => [V.ref S, V.int (lv + 1), V.int room, V.int z]) e4, by omega, st1.kp k14 p4, by omega, by omega, r1, r2,
      fun v t H5 a g k5 p5 => ⟨(by show 4 ≤ 1000; decide), fun H6 c s6 nc hc => ?_⟩⟩
    exact q1 _ (.pick r x t) H6 (.tup (SqT.of hc) (.cons (.str _) (.cons (Dp.key r) (.cons (.str _) (.cons (Dp.sm s6 _ _ a) .nil))))) (Grown.pick hr (fref r hr) fx g (by omega)) ((k14.trans k5).trans (Kp.of s6)) (p5.kp (S := []) (by simp) (Kp.of s6))
  -- open
  refine ⟨_, rfl, rfl, _, rfl, iteB (fun _ => ?_) (fun _ => ?_)⟩
  · refine ⟨_, rfl, _, rfl, S, l, n, o, names, outer, bs, most, lv, rfl, st1, hl, by omega, fun r H2 hr k2 p2 => ?_⟩
    refine ⟨_, rfl, S, l, n, o, names, outer, bs, most, rfl, st1.kp k2 p2, fun x H3 hx k3 p3 => ?_⟩
    refine ⟨_, rfl, l, 3, rfl, p3, by decide, by decide, fun i H4 i0 i1 k4 p4 => ⟨(by show 4 ≤ 1000; decide), fun H5 c s5 nc hc => ?_⟩⟩
    have k15 : Kp [l] H1 H5 := ((k2.trans k3).trans k4).trans (Kp.of s5)
    have p5 := p4.kp (S := []) (by simp) (Kp.of s5)
    refine ⟨_, rfl, _, rfl, _, rfl, _, _, rfl, rfl, _, rfl, _, rfl, _, _, rfl, rfl, S, l, n, o, names, outer, bs, most, lv + 1, room, m - 1, congrArg (fun z => [V.ref S, V.int (lv + 1), V.int room, V.int z]) e4, by omega, st1.kp k15 p5, by omega, by omega, r1, r2,
      fun v t H6 a g k6 p6 => ⟨(by show 1 ≤ 1000; decide), fun H7 e s7 ne he => ?_⟩⟩
    refine ⟨c, e, _, _, rfl, rfl, s7.seqT (k6.seqT p5.lsts (SqT.of hc)), SqT.of he, sz_le (by show 4 + 1 ≤ 100000; decide), fun H8 z s8 hz => ?_⟩
    exact q1 _ (.opn r x i t) H8 (.tup hz (.cons (.str _) (.cons (Dp.key r) (.cons (.str _) (.cons (.int _) (.cons (Dp.sm (s7.trans s8) _ _ a) .nil)))))) (Grown.opn hr (fref r hr) (fname x hx) (by omega) g (by omega))
      ((k15.trans k6).trans (Kp.of (s7.trans s8))) (p6.kp (S := []) (by simp) (Kp.of (s7.trans s8)))
  -- first, rest
  refine ⟨_, rfl, _, rfl, l, (m : Int), rfl, p1, by omega, by omega, fun f H2 f0 f1 k2 p2 => ?_⟩
  obtain ⟨m1, rfl⟩ := Int.eq_ofNat_of_zero_le f0
  have hm1 : m1 < m := by omega
  have st2 := st1.kp k2 p2
  have e5 : (m : Int) - 1 - (m1 : Int) = ((m - 1 - m1 : Nat) : Int) := by omega
  refine ⟨_, rfl, _, _, rfl, rfl, _, rfl, _, _, rfl, rfl, ?_⟩
  refine ⟨_, rfl, rfl, _, rfl, iteB (fun _ => ?_) (fun _ => ?_)⟩
  · -- offer
    refine ⟨_, rfl, _, rfl, _, rfl, _, rfl, S, l, n, o, names, outer, bs, most, lv, room, m1, rfl, by omega, st2, by omega, by omega, r1, r2, fun v t H3 a g k3 p3 => ?_⟩
    refine ⟨_, rfl, _, rfl, _, rfl, _, rfl, S, l, n, o, names, outer, bs, most, lv, room, m - 1 - m1, congrArg (fun z => [V.ref S, V.int lv, V.int room, V.int z]) e5, by omega, st2.kp k3 p3, by omega, by omega, r1, r2,
      fun v' t' H4 a' g' k4 p4 => ⟨(by show 3 ≤ 1000; decide), fun H5 c s5 nc hc => ?_⟩⟩
    exact q1 _ (.offer t t') H5 (.tup (SqT.of hc) (.cons (.str _) (.cons (Dp.sm s5 _ _ (Dp.kp k4 p3.lsts _ _ t.tu a)) (.cons (Dp.sm s5 _ _ a') .nil)))) (g.offer g' (by omega)) (((k2.trans k3).trans k4).trans (Kp.of s5)) (p4.kp (S := []) (by simp) (Kp.of s5))
  -- mode, inner
  refine ⟨_, rfl, _, rfl, l, room, rfl, p2, r1, fun vk kd H3 kin hk k3 p3 => ?_⟩
  have st3 := st2.kp k3 p3
  refine ⟨_, rfl, ?_⟩
  refine ⟨fun σ' H' => ∃ j : Int, σ' = [some (.ref S), some (.int lv), some (.int room), some (.int (m : Int)), some (.ref l), some (.int d), none, none, some (.int (m1 : Int)), some (.int ((m : Int) - 1 - (m1 : Int))), some vk, some (.int j)] ∧ H' = H3 ∧ 1 ≤ j ∧ j < 1073741824, ?_, ?_⟩
  · have sh := fine_shaped kin.fine (Nat.le_trans (kd_nodes kd).2 (by decide))
    refine ⟨_, rfl, kd.d, .str "once", hk, .str _, sh, by decide +kernel, _, rfl, ?_⟩
    cases kd with
    | once =>
      refine iteB (fun z => absurd z ?_) (fun _ => ⟨_, rfl, rfl, r1, r2⟩)
      show ¬ (!PyData.eqv (.str "once") (.str "once")) = true
      rw [SeqAt.eqv_refl _ (by decide +kernel)]
      decide
    | st n k =>
      obtain ⟨c1, c2, c3, c4, c5⟩ := kin
      obtain ⟨a, xs, rfl, hs, hx⟩ := hk.tup_inv
      cases hx with
      | cons x1 x2 =>
        obtain rfl := x1.int_inv
        refine iteB (fun _ => ?_) (fun z => absurd z ?_)
        · refine ⟨_, rfl, _, rfl, a, _, 0, .int n, rfl, rfl, hs, atI_at (j := 0) rfl rfl, _, _, rfl, rfl, ⟨by omega, by omega⟩, _, rfl, rfl, ?_, ?_⟩
          · exact (Int.le_ediv_iff_mul_le (by omega)).mpr (by omega)
          · exact Int.lt_of_le_of_lt (Int.ediv_le_self _ (by omega)) r2
        · show ¬ (!PyData.eqv (.tuple [.int n, .int k]) (.str "once")) = false
          rw [show PyData.eqv (.tuple [.int n, .int k]) (.str "once") = false from rfl]
          decide
  rintro σ' H' ⟨j, rfl, eH2, j1, j2⟩
  have eH2' := eH2.symm
  subst eH2'
  -- pay, cut
  have k13 : Kp [l] H1 H3 := k2.trans k3
  refine ⟨fun σ' H' => ∃ c ds, σ' = [some (.ref S), some (.int lv), some (.int room), some (.int (m : Int)), some (.ref l), some (.int d), none, some (.ref c), some (.int (m1 : Int)), some (.int ((m : Int) - 1 - (m1 : Int))), some vk, some (.int j)] ∧
    Dp K H' (.ref c) (.tuple ds) ∧ ds.length ≤ 4 ∧ tuAll ds = true ∧ Kp [l] H3 H' ∧ Pool H' l ∧
    ∀ b, Grown outer bs (lv + 1) (m - 1 - m1) b → ∃ t, Row.d t = .tuple (ds ++ [b.d]) ∧ Grown outer bs lv m t, ?_, ?_⟩
  · refine ⟨_, rfl, _, _, rfl, rfl, _, rfl, iteB (fun _ => ?_) (fun _ => ?_)⟩
    · refine ⟨_, rfl, _, rfl, S, l, n, o, names, outer, bs, most, lv, rfl, st3, hl, by omega, fun r H4 hr k4 p4 => ?_⟩
      refine ⟨_, rfl, _, rfl, _, rfl, _, rfl, _, rfl, S, l, n, o, names, outer, bs, most, lv, j, m1, rfl, by omega, st3.kp k4 p4, by omega, by omega, j1, j2,
        fun v t H5 a g k5 p5 => ⟨(by show 4 ≤ 1000; decide), fun H6 c s6 nc hc => ?_⟩⟩
      refine ⟨c, [.str "pay", kD r, kd.d, t.d], rfl, .tup (SqT.of hc) (.cons (.str _) (.cons (Dp.key r) (.cons (Dp.sm s6 _ _ (Dp.kp k5 p4.lsts _ _ kd.tu (Dp.kp k4 p3.lsts _ _ kd.tu hk))) (.cons (Dp.sm s6 _ _ a) .nil)))), (by show 4 ≤ 4; decide), ?_,
        (k4.trans k5).trans (Kp.of s6), p5.kp (S := []) (by simp) (Kp.of s6), fun b gb => ⟨.pay r kd t b, rfl, Grown.pay hr (fref r hr) kin.fine g gb (by omega)⟩⟩
      simp only [tuAll, tu, tu_key, Kd.tu, Row.tu, Bool.and_self]
    · refine ⟨_, rfl, _, rfl, S, l, n, o, names, outer, bs, most, 2, rfl, by decide, st3, fun vs sn H4 a1 a2 a3 a4 k4 p4 => ?_⟩
      refine ⟨_, rfl, _, rfl, _, rfl, _, rfl, S, l, n, o, names, outer, bs, most, lv, j, m1, rfl, by omega, st3.kp k4 p4, by omega, by omega, j1, j2,
        fun v t H5 a g k5 p5 => ⟨(by show 4 ≤ 1000; decide), fun H6 c s6 nc hc => ?_⟩⟩
      refine ⟨c, [.str "cut", kd.d, sn.d, t.d], rfl, .tup (SqT.of hc) (.cons (.str _) (.cons (Dp.sm s6 _ _ (Dp.kp k5 p4.lsts _ _ kd.tu (Dp.kp k4 p3.lsts _ _ kd.tu hk))) (.cons (Dp.sm s6 _ _ (Dp.kp k5 p4.lsts _ _ sn.tu a1)) (.cons (Dp.sm s6 _ _ a) .nil)))), (by show 4 ≤ 4; decide), ?_,
        (k4.trans k5).trans (Kp.of s6), p5.kp (S := []) (by simp) (Kp.of s6), fun b gb => ⟨.cut kd sn t b, rfl, Grown.cut kin.fine a2 (by omega) a4 g gb (by omega)⟩⟩
      simp only [tuAll, tu, Sn.tu, Kd.tu, Row.tu, Bool.and_self]
  rintro σ' H4 ⟨c, ds, rfl, hc, dl, dt, k4, p4, fin⟩
  refine ⟨_, rfl, _, rfl, _, rfl, _, _, rfl, rfl, _, rfl, _, rfl, S, l, n, o, names, outer, bs, most, lv + 1, room, m - 1 - m1, congrArg (fun z => [V.ref S, V.int (lv + 1), V.int room, V.int z]) e5, by omega, st3.kp k4 p4, by omega, by omega, r1, r2,
    fun v b H5 a g k5 p5 => ⟨(by show 1 ≤ 1000; decide), fun H6 e s6 ne he => ?_⟩⟩
  obtain ⟨t, et, gt⟩ := fin b g
  obtain ⟨c', xs, ec, hs, hx⟩ := hc.tup_inv
  cases ec
  have lx := hx.len
  refine ⟨c, e, _, _, rfl, rfl, s6.seqT (k5.seqT p4.lsts hs), SqT.of he, sz_le ?_, fun H7 z s7 hz => ?_⟩
  · show xs.length + 1 ≤ 100000
    omega
  refine q1 _ t H7 ?_ gt (((k13.trans k4).trans k5).trans (Kp.of (s6.trans s7))) (p5.kp (S := []) (by simp) (Kp.of (s6.trans s7)))
  rw [et]
  exact .tup hz ((Dp.smAll (s6.trans s7) _ _ (Dp.kpAll k5 p4.lsts _ _ dt hx)).app (.cons (Dp.sm (s6.trans s7) _ _ a) .nil))
theorem ok_grow (T : Tx K w mg) : ∀ N : Nat, FnOk P w K mg base CX0 (N + 6) T.a__law_grow T.d__law_grow ["state", "level", "room", "many"] (spGrow K N)
  | 0 => by
    have no : ∀ vs H Q E, ¬ spGrow K 0 vs H Q E := fun vs H Q E h => by
      obtain ⟨S, l, n, o, names, outer, bs, most, lv, room, m, _, hm, _⟩ := h
      omega
    exact ⟨fun vs H Q E h => absurd h (no vs H Q E), fun A outer s H args us vs Q E _ _ _ _ h => absurd h (no vs H Q E)⟩
  | N + 1 => grow_step T (ok_grow T N)
end
end HA

/-! Renamings. -/
namespace HA
open PySem PySem.Spec PyProof.Rows L2
def Ren.put (ρ : Ren) (k z : Key) : Ren := if (ρ.any fun p => decide (p.1 = k)) = true then ρ.map (fun p => if p.1 = k then (p.1, z) else p) else ρ ++ [(k, z)]
theorem Ren.kv_put (ρ : Ren) (k z : Key) : putK ρ.kv k (kV z) = (ρ.put k z).kv := by
  unfold putK Ren.put Ren.kv
  rw [List.any_map]
  have e : ((fun kv : Key × V => decide (kv.1 = k)) ∘ fun p : Key × Key => (p.1, kV p.2)) = fun p : Key × Key => decide (p.1 = k) := rfl
  rw [e]
  split
  · rw [List.map_map, List.map_map]
    refine List.map_congr_left fun p _ => ?_
    show (if p.1 = k then (p.1, kV z) else (p.1, kV p.2)) = ((if p.1 = k then (p.1, z) else p).1, kV (if p.1 = k then (p.1, z) else p).2)
    split <;> rfl
  · rw [List.map_append]; rfl
theorem Ren.kv_len (ρ : Ren) : ρ.kv.length = ρ.length := List.length_map ..
theorem Ren.put_len (ρ : Ren) (k z : Key) : (ρ.put k z).length ≤ ρ.length + 1 := by
  unfold Ren.put
  split
  · rw [List.length_map]; omega
  · rw [List.length_append]; exact Nat.le_refl _
theorem Ren.look_nil (r : Key) : Ren.look [] r = none := rfl
theorem Ren.look_cons (p : Key × Key) (ρ : Ren) (r : Key) : Ren.look (p :: ρ) r = if p.1 = r then some p.2 else Ren.look ρ r := by
  unfold Ren.look
  rw [List.find?_cons]
  by_cases h : p.1 = r
  · rw [decide_eq_true h, if_pos h]; rfl
  · rw [decide_eq_false h, if_neg h]
theorem Ren.look_app (ρ : Ren) (k z r : Key) : Ren.look (ρ ++ [(k, z)]) r = match Ren.look ρ r with
    | some y => some y
    | none => if k = r then some z else none := by
  induction ρ with
  | nil => rw [List.nil_append, Ren.look_cons]; rfl
  | cons p ρ ih =>
    rw [List.cons_append, Ren.look_cons, Ren.look_cons, ih]
    split <;> rfl
theorem Ren.look_any (ρ : Ren) (k : Key) : (ρ.any fun p => decide (p.1 = k)) = (Ren.look ρ k).isSome := by
  induction ρ with
  | nil => rfl
  | cons p ρ ih =>
    rw [List.any_cons, Ren.look_cons, ih]
    by_cases h : p.1 = k
    · rw [decide_eq_true h, if_pos h]; rfl
    · rw [decide_eq_false h, if_neg h, Bool.false_or]
theorem Ren.look_map (ρ : Ren) (k z r : Key) : Ren.look (ρ.map (fun p => if p.1 = k then (p.1, z) else p)) r = if k = r then (Ren.look ρ r).map (fun _ => z) else Ren.look ρ r := by
  induction ρ with
  | nil => rw [List.map_nil, Ren.look_nil]; split <;> rfl
  | cons p ρ ih =>
    rw [List.map_cons, Ren.look_cons, Ren.look_cons, ih]
    by_cases h : p.1 = k
    · rw [if_pos h]
      by_cases h2 : p.1 = r
      · have h3 : k = r := h.symm.trans h2
        rw [if_pos h2, if_pos h2, if_pos h3]; rfl
      · have h3 : ¬ k = r := fun e => h2 (h.trans e)
        rw [if_neg h2, if_neg h2, if_neg h3]
    · rw [if_neg h]
      by_cases h2 : p.1 = r
      · have h3 : ¬ k = r := fun e => h (h2.trans e.symm)
        rw [if_pos h2, if_pos h2, if_neg h3]
      · rw [if_neg h2, if_neg h2]
theorem Ren.look_put (ρ : Ren) (k z r : Key) : (ρ.put k z).look r = if k = r then some z else ρ.look r := by
  unfold Ren.put
  rw [Ren.look_any]
  split
  · rename_i h
    rw [Ren.look_map]
    by_cases e : k = r
    · subst e
      rw [if_pos rfl, if_pos rfl]
      cases hl : ρ.look k with
      | none => rw [hl] at h; cases h
      | some y => rfl
    · rw [if_neg e, if_neg e]
  · rename_i h
    rw [Ren.look_app]
    by_cases e : k = r
    · subst e
      cases hl : ρ.look k with
      | none => rw [if_pos rfl]
      | some y => rw [hl] at h; exact absurd rfl h
    · cases ρ.look r with
      | none => rfl
      | some y =>
        show some y = _
        rw [if_neg e]
theorem Ren.look_none {ρ : Ren} {k : Key} (h : Ren.look ρ k = none) : k ∉ ρ.map (·.1) := by
  induction ρ with
  | nil => simp
  | cons p ρ ih =>
    rw [Ren.look_cons] at h
    by_cases e : p.1 = k
    · rw [if_pos e] at h; cases h
    · rw [if_neg e] at h
      rw [List.map_cons, List.mem_cons]
      rintro (z | z)
      · exact e z.symm
      · exact ih h z
theorem Ren.put_nodup {ρ : Ren} (k z : Key) (h : (ρ.map (·.1)).Nodup) : ((ρ.put k z).map (·.1)).Nodup := by
  unfold Ren.put
  split
  · rw [List.map_map]
    have e : ((fun p : Key × Key => p.1) ∘ fun p : Key × Key => if p.1 = k then (p.1, z) else p) = fun p => p.1 := by
      funext p
      show (if p.1 = k then (p.1, z) else p).1 = p.1
      split <;> rfl
    rw [e]
    exact h
  · rename_i hn
    rw [Ren.look_any] at hn
    have hl : ρ.look k = none := by
      cases hl : ρ.look k with
      | none => rfl
      | some y => rw [hl] at hn; exact absurd rfl hn
    rw [List.map_append]
    refine List.nodup_append.mpr ⟨h, by simp, fun a ha b hb => ?_⟩
    rw [List.mem_singleton.mp hb]
    rintro rfl
    exact Ren.look_none hl ha
/-- where a renaming sends to -/
def TargetIn (names : List Str) (room : Int) (r : Key) : Prop := (∃ x ∈ names, r = .inr x) ∨ ∃ i, r = .inl i ∧ 0 ≤ i ∧ i < room
structure RenOk (refs : List Key) (names : List Str) (new : Int) (ρ : Ren) : Prop where
  all : ∀ r ∈ refs, (∃ i, r = .inl i ∧ new ≤ i) → (ρ.look r).isSome = true
  to : ∀ r z, ρ.look r = some z → TargetIn names new z
  nd : (ρ.map (·.1)).Nodup
/-- the references that are not own ones: names, and the levels below -/
def outerOf (names : List Str) (a : Int) : List Key := names.map Sum.inr ++ (List.range a.toNat).map fun i : Nat => (Sum.inl (i : Int) : Key)
theorem mem_outer {names : List Str} {a : Int} {r : Key} : r ∈ outerOf names a ↔ TargetIn names a r := by
  unfold outerOf TargetIn
  rw [List.mem_append, List.mem_map, List.mem_map]
  constructor
  · rintro (⟨x, hx, rfl⟩ | ⟨i, hi, rfl⟩)
    · exact .inl ⟨x, hx, rfl⟩
    · have := List.mem_range.mp hi
      exact .inr ⟨_, rfl, by omega, by omega⟩
  · rintro (⟨x, hx, rfl⟩ | ⟨i, rfl, h1, h2⟩)
    · exact .inl ⟨x, hx, rfl⟩
    · refine .inr ⟨i.toNat, List.mem_range.mpr (by omega), ?_⟩
      rw [Int.toNat_of_nonneg h1]
theorem outer_nodup {names : List Str} (a : Int) (h : names.Nodup) : (outerOf names a).Nodup := by
  unfold outerOf
  refine List.nodup_append.mpr ⟨?_, ?_, ?_⟩
  · rw [List.Nodup, List.pairwise_map]
    exact h.imp fun hne e => hne (Sum.inr.inj e)
  · rw [List.Nodup, List.pairwise_map]
    exact (List.nodup_range).imp fun hne e => hne (by have := Sum.inl.inj e; omega)
  · intro x hx y hy
    obtain ⟨z, _, rfl⟩ := List.mem_map.mp hx
    obtain ⟨i, _, rfl⟩ := List.mem_map.mp hy
    intro e
    cases e
theorem target_fine {names : List Str} {a : Int} {r : Key} (ok : ∀ x ∈ names, NameOk x) (h : TargetIn names a r) (l : a ≤ 1000000) : fine (kD r) = true := by
  rcases h with ⟨x, hx, rfl⟩ | ⟨i, rfl, h1, h2⟩
  · exact fineS_name (ok x hx)
  · show decide (i.natAbs < 1000000000) = true
    exact decide_eq_true (by omega)
/-- the image of an outer reference stays a name or a level below -/
theorem RenOk.image {names : List Str} {a b : Int} {ρ : Ren} (h : RenOk (outerOf names a) names b ρ) {r : Key} (hr : TargetIn names a r) : TargetIn names b (ρ.to r) := by
  unfold Ren.to
  cases hl : ρ.look r with
  | some z => exact h.to r z hl
  | none =>
    rcases hr with ⟨x, hx, rfl⟩ | ⟨i, rfl, h1, h2⟩
    · exact .inl ⟨x, hx, rfl⟩
    · refine .inr ⟨i, rfl, h1, ?_⟩
      by_cases hb : b ≤ i
      · have := h.all (.inl i) (mem_outer.mpr (.inr ⟨i, rfl, h1, h2⟩)) ⟨i, rfl, hb⟩
        rw [hl] at this
        cases this
      · omega
theorem mv_outer {names : List Str} {a b : Int} (ρ : Ren) {r : Key} (h : TargetIn names a r) : mvRef a b ρ r = ρ.to r := by
  rcases h with ⟨x, _, rfl⟩ | ⟨i, rfl, h1, h2⟩
  · rfl
  · exact if_neg (show ¬ i ≥ a by omega)
theorem mv_own {a b i : Int} (ρ : Ren) (h : a ≤ i) : mvRef a b ρ (.inl i) = .inl (i + b - a) := if_pos h
theorem free_outer {names : List Str} {a : Int} {r : Key} (h : TargetIn names a r) : isFree a r = true := by
  rcases h with ⟨x, _, rfl⟩ | ⟨i, rfl, h1, h2⟩
  · rfl
  · exact decide_eq_true h2
theorem free_own {a i : Int} (h : a ≤ i) : isFree a (.inl i) = false := decide_eq_false (by omega)
/-- the references of a drawn derivation -/
def RefsOk (names : List Str) (a hi : Int) (t : Row) : Prop := ∀ r ∈ t.refs, TargetIn names a r ∨ ∃ i, r = .inl i ∧ a ≤ i ∧ i < hi
theorem free_mv {names : List Str} {a b hi : Int} {ρ : Ren} {t : Row} (h : RefsOk names a hi t) (im : ∀ r, TargetIn names a r → TargetIn names b (ρ.to r)) :
    (t.mv a b ρ).free b = addTo [] ((t.free a).map ρ.to) := by
  unfold Row.free
  rw [addTo_map, Row.refs_mv, List.map_nil, addTo_nil]
  have e : ∀ l : List Key, (∀ r ∈ l, TargetIn names a r ∨ ∃ i, r = .inl i ∧ a ≤ i ∧ i < hi) → (l.map (mvRef a b ρ)).filter (isFree b) = (l.filter (isFree a)).map ρ.to := by
    intro l
    induction l with
    | nil => intro _; rfl
    | cons r l ih =>
      intro hl
      have ih := ih fun x hx => hl x (.tail _ hx)
      rw [List.map_cons, List.filter_cons, List.filter_cons]
      rcases hl r (.head _) with ht | ⟨i, rfl, h1, _⟩
      · rw [mv_outer ρ ht, free_outer (im r ht), free_outer ht, if_pos rfl, if_pos rfl, List.map_cons, ih]
      · rw [mv_own ρ h1, free_own h1, free_own (show b ≤ i + b - a by omega), ih]
        rfl
  rw [e _ h]
/-- two hops are one -/
theorem two_hops {names : List Str} {a b c hi : Int} {one two both : Ren} {t : Row} (h : RefsOk names a hi t) (im : ∀ r, TargetIn names a r → TargetIn names b (one.to r))
    (hb : ∀ r, TargetIn names a r → both.to r = two.to (one.to r)) : (t.mv a b one).mv b c two = t.mv a c both := by
  refine Row.mv_mv t fun r hr => ?_
  rcases h r hr with ht | ⟨i, rfl, h1, _⟩
  · rw [mv_outer one ht, mv_outer two (im r ht), mv_outer both ht, hb r ht]
  · rw [mv_own one h1, mv_own two (show b ≤ i + b - a by omega), mv_own both h1]
    exact congrArg Sum.inl (by omega)
theorem refs_mv_ok {names : List Str} {a b hi : Int} {ρ : Ren} {t : Row} (h : RefsOk names a hi t) (im : ∀ r, TargetIn names a r → TargetIn names b (ρ.to r)) :
    RefsOk names b (hi + b - a) (t.mv a b ρ) := by
  intro r hr
  rw [Row.refs_mv] at hr
  obtain ⟨q, hq, rfl⟩ := List.mem_map.mp hr
  rcases h q hq with ht | ⟨i, rfl, h1, h2⟩
  · rw [mv_outer ρ ht]
    exact .inl (im q ht)
  · rw [mv_own ρ h1]
    exact .inr ⟨_, rfl, by omega, by omega⟩
theorem refs_fine {names : List Str} {a hi : Int} {t : Row} (ok : ∀ x ∈ names, NameOk x) (h : RefsOk names a hi t) (a0 : 0 ≤ a) (l : a ≤ 1000000) (l2 : hi ≤ 1000000) : ∀ r ∈ t.refs, fine (kD r) = true := by
  intro r hr
  rcases h r hr with ht | ⟨i, rfl, h1, h2⟩
  · exact target_fine ok ht l
  · show decide (i.natAbs < 1000000000) = true
    exact decide_eq_true (by omega)
end HA

/-! Renamings drawn; what is asked of a tree. -/
namespace HA
open PySem PySem.Spec PyProof.Rows L2
theorem Kp.hide {S : List Addr} {H H1 H2 : Hp} {D : Addr} (a : Kp S H H1) (b : Kp (D :: S) H1 H2) (n : H D = none) : Kp S H H2 := fun x o m e =>
  b x o (fun z => by
    rcases List.mem_cons.mp z with rfl | z
    · rw [n] at e; cases e
    · exact m z) (a x o m e)
theorem RenOk.put {refs : List Key} {names : List Str} {new : Int} {ρ : Ren} (h : RenOk refs names new ρ) (k z : Key) (hz : TargetIn names new z) : RenOk refs names new (ρ.put k z) := by
  refine ⟨fun r hr e => ?_, fun r y hy => ?_, Ren.put_nodup k z h.nd⟩
  · rw [Ren.look_put]
    split
    · rfl
    · exact h.all r hr e
  · rw [Ren.look_put] at hy
    split at hy
    · cases hy; exact hz
    · exact h.to r y hy
theorem RenOk.more {refs : List Key} {names : List Str} {new : Int} {ρ : Ren} {r : Key} (h : RenOk refs names new ρ) (c : (∃ i, r = .inl i ∧ new ≤ i) → (ρ.look r).isSome = true) : RenOk (refs ++ [r]) names new ρ := by
  refine ⟨fun q hq e => ?_, h.to, h.nd⟩
  rcases List.mem_append.mp hq with hq | hq
  · exact h.all q hq e
  · rw [List.mem_singleton.mp hq] at e ⊢
    exact c e
theorem RenOk.nil {names : List Str} {new : Int} : RenOk [] names new [] := ⟨fun r hr => (by cases hr), fun r z e => (by cases e), List.nodup_nil⟩
section
variable {P : Program} {w : World} {K : PySem.W.Frag} {mg : Str → Option Value} {base : Heap}
def spTarget : Sp := fun vs H Q _ => ∃ (l n : Addr) (names : List Str) (room : Int), vs = [.ref l, .ref n, .int room] ∧ Pool H l ∧
  H n = some (.lst (names.map V.str)) ∧ 0 < names.length ∧ names.length ≤ 1000 ∧ 0 ≤ room ∧ room < 1073741824 ∧
  ∀ r H', TargetIn names room r → Kp [l] H H' → Pool H' l → Q (kV r) H'
theorem ok_target (T : Tx K w mg) {k : Nat} : FnOk P w K mg base CX0 (k + 2) T.a__law_target T.d__law_target ["pool", "names", "room"] spTarget := by
  have G__law_next := ok_next (P := P) (base := base) T (k := k)
  refine T.F__law_target.ok sc__law_target (fun vs H Q E h => ?_) (fun cdv A outer s H vs Q E hr h => ?_)
  · obtain ⟨l, n, names, room, rfl, _⟩ := h
    rfl
  obtain ⟨l, n, names, room, rfl, hp, hn, n0, n1, r0, r1, q⟩ := h
  have nl := (pool_ne hp hn).symm
  refine ⟨_, (pss_cons (ps_if (PW.pt (pw_and (pt_cmpR op_gt (pv 2) pe_int (nomark _)) (pw_and1 (pt_cmpR op_eq (pe_call (G__law_next) hr (by rfl) T.g__law_next T.k__law_next T.b__law_next .nil pass0 (pa_cons (pv 0) (pa_cons pe_int pa_nil))) pe_int (nomark _)))))
      (pss_one (ps_ret (pe_call (G__law_next) hr (by rfl) T.g__law_next T.k__law_next T.b__law_next .nil pass0 (pa_cons (pv 0) (pa_cons (pv 2) pa_nil)))))
      pss_nil)
    (pss_one (ps_ret (pe_ix ix_list (pv 1) (pe_call (G__law_next) hr (by rfl) T.g__law_next T.k__law_next T.b__law_next .nil pass0 (pa_cons (pv 0) (pa_cons (pe_callB call_len_seq (by rfl) T.z_len (by decide +kernel) (pa_cons (pv 1) pa_nil)) pa_nil))) (fun _ _ => rfl))))), ?_⟩
  refine ⟨_, rfl, _, _, rfl, rfl, _, rfl, iteB (fun e1 => ?_) fun e1 => iteF ?_⟩
  · have e1' : (0 : Int) < room := of_decide_eq_true e1
    refine ⟨_, rfl, l, 2, rfl, hp, by decide, by decide, fun d H1 d0 d1 k1 p1 => ⟨rfl, _, rfl, iteB (fun e2 => ?_) fun e2 => ?_⟩⟩
    · exact ⟨_, rfl, _, rfl, l, room, rfl, p1, e1', r1, fun i H2 i0 i1 k2 p2 => q (.inl i) H2 (.inr ⟨i, rfl, i0, i1⟩) (k1.trans k2) p2⟩
    · have hn1 := k1 n _ (by simp [nl]) hn
      refine ⟨_, rfl, _, rfl, _, rfl, n, _, rfl, .inl (SqL.of hn1), l, _, rfl, p1, by rw [List.length_map]; omega, by rw [List.length_map]; omega, fun f H2 f0 f1 k2 p2 => ?_⟩
      obtain ⟨i, rfl⟩ := Int.eq_ofNat_of_zero_le f0
      rw [List.length_map] at f1
      have hi : i < names.length := by omega
      refine ⟨n, _, (i : Int), .str names[i], rfl, rfl, SqL.of (k2 n _ (by simp [nl]) hn1), atI_nat ?_, q (.inr names[i]) H2 (.inl ⟨_, List.getElem_mem hi, rfl⟩) (k1.trans k2) p2⟩
      rw [List.getElem?_map, List.getElem?_eq_getElem hi]; rfl
  · refine ⟨_, rfl, _, rfl, _, rfl, n, _, rfl, .inl (SqL.of hn), l, _, rfl, hp, by rw [List.length_map]; omega, by rw [List.length_map]; omega, fun f H2 f0 f1 k2 p2 => ?_⟩
    obtain ⟨i, rfl⟩ := Int.eq_ofNat_of_zero_le f0
    rw [List.length_map] at f1
    have hi : i < names.length := by omega
    refine ⟨n, _, (i : Int), .str names[i], rfl, rfl, SqL.of (k2 n _ (by simp [nl]) hn), atI_nat ?_, q (.inr names[i]) H2 (.inl ⟨_, List.getElem_mem hi, rfl⟩) k2 p2⟩
    rw [List.getElem?_map, List.getElem?_eq_getElem hi]; rfl
def spRenaming (K : PySem.W.Frag) : Sp := fun vs H Q _ => ∃ (l rl n : Addr) (refs : List Key) (names : List Str) (old new : Int), vs = [.ref l, .ref rl, .ref n, .int old, .int new] ∧ Pool H l ∧
  H rl = some (.lst (refs.map kV)) ∧ rl ≠ l ∧ refs.length ≤ 1000 ∧ H n = some (.lst (names.map V.str)) ∧ 0 < names.length ∧ names.length ≤ 1000 ∧ (∀ x ∈ names, NameOk x) ∧ 0 ≤ new ∧ new < 1073741824 ∧
  ∀ H' D ρ, Kp [l] H H' → H D = none → H' D = some (.dK ρ.kv) → RenOk refs names new ρ → ρ.length ≤ 2000 → Pool H' l → Q (.ref D) H'
theorem ok_renaming (T : Tx K w mg) {k : Nat} : FnOk P w K mg base CX0 (k + 3) T.a__law_renaming T.d__law_renaming ["pool", "refs", "names", "old", "new"] (spRenaming K) := by
  have G__law_next := ok_next (P := P) (base := base) T (k := k + 1)
  have G__law_target := ok_target (P := P) (base := base) T (k := k)
  have G__law_new_name := ok_new_name (P := P) (base := base) T (k := k)
  refine T.F__law_renaming.ok sc__law_renaming (fun vs H Q E h => ?_) (fun cdv A outer s H vs Q E hr h => ?_)
  · obtain ⟨l, rl, n, refs, names, old, new, rfl, _⟩ := h
    rfl
  obtain ⟨l, rl, n, refs, names, old, new, rfl, hp, hrl, nrl, rz, hn, n0, n1, nok, w0, w1, q⟩ := h
  have nl := (pool_ne hp hn).symm
  refine ⟨_, (pss_cons (ps_set (i := 5) sc__law_renaming.nd rfl (Or.inl rfl) pe_dictN)
    (pss_cons (ps_for PassesOwn.never rfl (pi_list (pv 1)) (pg_name (i := 6) sc__law_renaming.nd rfl (Or.inl rfl))
      (pss_one (ps_if (PW.pt (pw_or (PW.pt (pw_and (pt_not (pt_val (pe_callB call_isi (by rfl) T.z_isinstance (by decide +kernel) (pa_cons (pv 6) (pa_cons (pe_bltn (v := .ty "str") (by rfl) T.z_str (by decide +kernel) rfl) pa_nil))))) (pw_and1 (pt_cmpR op_ge (pv 6) (pv 4) (nomark _))))) (pw_or1 (pt_cmpR op_gt (pe_call (G__law_next) hr (by rfl) T.g__law_next T.k__law_next T.b__law_next .nil pass0 (pa_cons (pv 0) (pa_cons pe_int pa_nil))) pe_int (nomark _)))))
        (pss_one (ps_dput (hu_of hr) (pv 5) (pv 6) (pe_call (G__law_target) hr (by rfl) T.g__law_target T.k__law_target T.b__law_target .nil pass0 (pa_cons (pv 0) (pa_cons (pv 2) (pa_cons (pv 4) pa_nil)))) rfl))
        pss_nil)))
    (pss_cons (ps_for PassesOwn.never rfl (pi_range1 (by rfl) T.z_range (pa_cons (pe_call (G__law_next) hr (by rfl) T.g__law_next T.k__law_next T.b__law_next .nil pass0 (pa_cons (pv 0) (pa_cons pe_int pa_nil))) pa_nil)) (pg_name (i := 7) sc__law_renaming.nd rfl (Or.inl rfl))
      (pss_one (ps_dput (hu_of hr) (pv 5) (pe_op op_add (pv 3) (pe_call (G__law_next) hr (by rfl) T.g__law_next T.k__law_next T.b__law_next .nil pass0 (pa_cons (pv 0) (pa_cons pe_int pa_nil)))) (pe_call (G__law_target) hr (by rfl) T.g__law_target T.k__law_target T.b__law_target .nil pass0 (pa_cons (pv 0) (pa_cons (pv 2) (pa_cons (pv 4) pa_nil)))) rfl)))
    (pss_cons (ps_dput (hu_of hr) (pv 5) (pe_call (G__law_new_name) hr (by rfl) T.g__law_new_name T.k__law_new_name T.b__law_new_name .nil pass0 (pa_cons (pv 0) (pa_cons (pe_callTy call_listN (by rfl) T.z_list (by decide +kernel) (pa_cons (pv 2) pa_nil)) pa_nil))) (pe_ix ix_list (pv 2) pe_int (fun _ _ => rfl)) rfl)
    (pss_one (ps_ret (pv 5))))))), ?_⟩
  -- found = {}
  refine fun H1 D s1 nD hD => ?_
  have hrl1 := s1 _ _ hrl
  have hn1 := s1 _ _ hn
  have p1 := hp.kp (S := []) (by simp) (Kp.of s1)
  have Dl : D ≠ l := by
    obtain ⟨a, b, c, e, _⟩ := p1
    exact ne_of hD e fun z => by cases z
  have Dr : rl ≠ D := ne_of hrl1 hD fun z => by cases z
  have Dn : n ≠ D := ne_of hn1 hD fun z => by cases z
  have lone : ∀ {a b : Addr}, a ≠ b → a ∉ [b] := fun h m => h (List.mem_singleton.mp m)
  -- one entry
  have putin : ∀ (done : List Key) (r : Key) (ρ : Ren) (y7 : Option V) (H' Hc : Hp) (D' : Ends), Kp [D, l] H1 H' → H' D = some (.dK ρ.kv) → RenOk done names new ρ → ρ.length ≤ 1990 → Kp [l] H' Hc → Pool Hc l →
      (∀ (H3 : Hp) (z : Key), Kp [D, l] H1 H3 → Pool H3 l → H3 D = some (.dK (ρ.put r z).kv) → (ρ.put r z).length ≤ ρ.length + 1 → RenOk (done ++ [r]) names new (ρ.put r z) →
        D'.nx [some (.ref l), some (.ref rl), some (.ref n), some (.int old), some (.int new), some (.ref D), some (kV r), y7] H3) →
      sDPut (tVar 5) (tVar 6) (tCall spTarget [] E0 (tCons (tVar 0) (tCons (tVar 2) (tCons (tVar 4) tNil)))) D' [some (.ref l), some (.ref rl), some (.ref n), some (.int old), some (.int new), some (.ref D), some (kV r), y7] Hc := by
    intro done r ρ y7 H' Hc D' k' hD' ok lρ kc pc fin
    have hn' := k' n _ (by simp [Dn, nl]) hn1
    have hDc := kc D _ (lone Dl) hD'
    refine ⟨_, rfl, _, rfl, _, rfl, l, n, names, new, rfl, pc, kc n _ (lone nl) hn', n0, n1, w0, w1, fun z H3 hz k3 p3 => ?_⟩
    have hD3 := k3 D _ (lone Dl) hDc
    refine ⟨_, rfl, _, rfl, D, _, rfl, DPut.k (k := r) hD3 (by rw [Ren.kv_len]; exact sz_lt (by omega)), ?_⟩
    refine fin _ z ?_ ?_ ?_ (Ren.put_len ρ r z) ((ok.put r z hz).more fun _ => by rw [Ren.look_put, if_pos rfl]; rfl)
    · exact ((k'.trans (kc.mono (by simp))).trans (k3.mono (by simp))).trans (Kp.wr (.head _))
    · exact p3.kp (S := [D]) (lone Dl.symm) (Kp.wr (.head _))
    · rw [upd_same, Ren.kv_put]
  -- for ref in refs
  refine ⟨_, rfl, rl, rfl, ⟨_, SqL.of hrl1⟩, ?_⟩
  refine for_list (xs := refs.map kV) (fun i σ' H' => ∃ y6 ρ, σ' = [some (.ref l), some (.ref rl), some (.ref n), some (.int old), some (.int new), some (.ref D), y6, none] ∧ Kp [D, l] H1 H' ∧ Pool H' l ∧
      H' D = some (.dK ρ.kv) ∧ ρ.length ≤ i ∧ RenOk (refs.take i) names new ρ) ⟨none, [], rfl, Kp.refl _, p1, hD, Nat.le_refl _, RenOk.nil⟩ ?_ ?_ ?_
  · rintro i σ' H' _ ⟨y6, ρ, _, k', _⟩
    exact k'.seqL (by simp [Dr, nrl]) (SqL.of hrl1)
  · rintro i x σ' H' hi ⟨y6, ρ, rfl, k', p', hD', lρ, ok⟩
    rw [List.getElem?_map] at hi
    cases hc : refs[i]? with
    | none => rw [hc] at hi; cases hi
    | some r =>
      rw [hc] at hi
      cases hi
      have ilt := (List.getElem?_eq_some_iff.mp hc).1
      have tk : refs.take (i + 1) = refs.take i ++ [r] := by rw [List.take_add_one, hc]; rfl
      obtain ⟨ty, h1, _, h3⟩ := ty_key (K := K) (H := H') r
      refine ⟨_, rfl, _, _, ty, .type "str", _, rfl, .ty _, h1, h3, _, rfl, ?_⟩
      cases r with
      | inr x =>
        refine iteF (iteF ⟨_, rfl, l, 3, rfl, p', by decide, by decide, fun d H2 d0 d1 k2 p2 => ⟨_, _, rfl, rfl, _, rfl, iteB (fun e => ?_) (fun e => ?_)⟩⟩)
        · exact putin _ (.inr x) ρ none H' H2 _ k' hD' ok (by omega) k2 p2 fun H3 z a1 a2 a3 a4 a5 => ⟨_, _, rfl, a1, a2, a3, by omega, by rw [tk]; exact a5⟩
        · exact ⟨_, ρ, rfl, k'.trans (k2.mono (by simp)), p2, k2 D _ (lone Dl) hD', by omega, by rw [tk]; exact ok.more fun ⟨_, z, _⟩ => by cases z⟩
      | inl j =>
        refine iteT ⟨_, rfl, _, rfl, j, new, rfl, rfl, _, rfl, ?_⟩
        refine ite2 (c := decide (new ≤ j) = true) (fun h => iteT ?_) fun h => ⟨_, rfl, l, 3, rfl, p', by decide, by decide, fun d H2 d0 d1 k2 p2 => ⟨_, _, rfl, rfl, _, rfl, iteB (fun e => ?_) (fun e => ?_)⟩⟩
        · exact putin _ (.inl j) ρ none H' H' _ k' hD' ok (by omega) (Kp.refl _) p' fun H3 z a1 a2 a3 a4 a5 => ⟨_, _, rfl, a1, a2, a3, by omega, by rw [tk]; exact a5⟩
        · exact putin _ (.inl j) ρ none H' H2 _ k' hD' ok (by omega) k2 p2 fun H3 z a1 a2 a3 a4 a5 => ⟨_, _, rfl, a1, a2, a3, by omega, by rw [tk]; exact a5⟩
        · refine ⟨_, ρ, rfl, k'.trans (k2.mono (by simp)), p2, k2 D _ (lone Dl) hD', by omega, ?_⟩
          rw [tk]
          refine ok.more fun ⟨i', z, hz⟩ => ?_
          cases z
          exact absurd (decide_eq_true hz) h
  -- for k in range(..)
  rintro σ' H2 ⟨y6, ρ, rfl, k2, p2, hD2, lρ, ok⟩
  rw [List.length_map] at lρ
  rw [List.length_map, List.take_length] at ok
  refine ⟨_, rfl, l, 3, rfl, p2, by decide, by decide, fun d H3 d0 d1 k3 p3 => ?_⟩
  refine ⟨d, rfl, by omega, by omega, ?_⟩
  refine for_range (lo := 0) (n := d.toNat) (fun i σ' H' => ∃ y7 ρ, σ' = [some (.ref l), some (.ref rl), some (.ref n), some (.int old), some (.int new), some (.ref D), y6, y7] ∧ Kp [D, l] H1 H' ∧ Pool H' l ∧
      H' D = some (.dK ρ.kv) ∧ ρ.length ≤ refs.length + i ∧ RenOk refs names new ρ) ⟨none, ρ, rfl, k2.trans (k3.mono (by simp)), p3, k3 D _ (lone Dl) hD2, lρ, ok⟩ ?_ ?_
  · rintro i σ' H' hi ⟨y7, ρ, rfl, k', p', hD', lρ, ok⟩
    have hn' := k' n _ (by simp [Dn, nl]) hn1
    refine ⟨_, rfl, _, rfl, _, rfl, l, n, names, new, rfl, p', hn', n0, n1, w0, w1, fun z H4 hz k4 p4 => ?_⟩
    refine ⟨_, rfl, _, rfl, _, rfl, l, 4, rfl, p4, by decide, by decide, fun e H5 e0 e1 k5 p5 => ?_⟩
    have hD5 := k5 D _ (lone Dl) (k4 D _ (lone Dl) hD')
    refine ⟨_, _, rfl, rfl, D, _, rfl, DPut.k (k := .inl (old + e)) hD5 (by rw [Ren.kv_len]; exact sz_lt (by omega)), ?_⟩
    refine ⟨_, ρ.put (.inl (old + e)) z, rfl, ?_, ?_, ?_, by have := Ren.put_len ρ (.inl (old + e)) z; omega, ok.put _ _ hz⟩
    · exact ((k'.trans (k4.mono (by simp))).trans (k5.mono (by simp))).trans (Kp.wr (.head _))
    · exact p5.kp (S := [D]) (lone Dl.symm) (Kp.wr (.head _))
    · rw [upd_same]
      exact congrArg (fun z => some (HO.dK z)) (Ren.kv_put ρ _ z)
  · rintro σ' H4 ⟨y7, ρ, rfl, k4, p4, hD4, lρ, ok⟩
    have hn4 := k4 n _ (by simp [Dn, nl]) hn1
    have g0 : names[0]? = some names[0] := List.getElem?_eq_getElem n0
    -- found[_law_new_name(pool, list(names))] = names[0]
    refine ⟨_, rfl, n, _, 0, .str names[0], rfl, rfl, SqL.of hn4, atI_at (j := 0) rfl (by rw [List.getElem?_map, g0]; rfl), _, rfl, _, rfl, _, rfl, n, _, rfl, .inl (SqL.of hn4), fun H5 t s5 nt ht => ?_⟩
    refine ⟨l, t, names, rfl, p4.kp (S := []) (by simp) (Kp.of s5), ht, nok, n1, fun x H6 hx hxn k6 p6 ht6 => ?_⟩
    have Dt : D ≠ t := ne_of_none hD4 nt
    have hD6 := k6 D _ (by simp [Dl, Dt]) (s5 _ _ hD4)
    refine ⟨D, _, rfl, DPut.k (k := .inr x) hD6 (by rw [Ren.kv_len]; exact sz_lt (by omega)), ?_⟩
    refine ⟨_, rfl, q _ D (ρ.put (.inr x) (.inr names[0])) ?_ nD ?_ (ok.put _ _ (.inl ⟨_, List.getElem_mem n0, rfl⟩)) (by have := Ren.put_len ρ (.inr x) (.inr names[0]); omega) ?_⟩
    · have a1 : Kp [l] H H4 := Kp.hide (Kp.of s1) k4 nD
      have a2 : Kp [l] H H5 := a1.trans (Kp.of s5)
      have nt0 : H t = none := by
        cases z : H t with
        | none => rfl
        | some o =>
          by_cases tl : t = l
          · subst tl
            obtain ⟨_, _, _, e, _⟩ := p4
            rw [e] at nt
            cases nt
          · have := a1 t o (lone tl) z
            rw [nt] at this
            cases this
      have a3 : Kp [l] H H6 := Kp.hide a2 (k6.mono (by simp)) nt0
      exact Kp.hide (D := D) a3 (Kp.wr (.head _)) nD
    · rw [upd_same]
      exact congrArg (fun z => some (HO.dK z)) (Ren.kv_put ρ (.inr x) (.inr names[0]))
    · exact p6.kp (S := [D]) (lone Dl.symm) (Kp.wr (.head _))
def spOnce (K : PySem.W.Frag) : Sp := fun vs H Q _ => ∃ (rl R : Addr) (refs : List Key) (ρ : Ren), vs = [.ref rl, .ref R] ∧
  H rl = some (.lst (refs.map kV)) ∧ refs.length ≤ 10000 ∧ H R = some (.dK ρ.kv) ∧
  ∀ H' F, Same H H' → H F = none → H' F = some (.lst ((addTo [] (refs.map ρ.to)).map kV)) → Q (.ref F) H'
theorem ok_once (T : Tx K w mg) {k : Nat} : FnOk P w K mg base CX0 (k + 1) T.a__law_once_each T.d__law_once_each ["refs", "images"] (spOnce K) := by
  refine T.F__law_once_each.ok sc__law_once_each (fun vs H Q E h => ?_) (fun cdv A outer s H vs Q E hr h => ?_)
  · obtain ⟨rl, R, refs, ρ, rfl, _⟩ := h
    rfl
  obtain ⟨rl, R, refs, ρ, rfl, hrl, rz, hR, q⟩ := h
  refine ⟨_, (pss_cons (ps_set (i := 2) sc__law_once_each.nd rfl (Or.inl rfl) (pe_lstN pa_nil))
    (pss_cons (ps_for PassesOwn.never rfl (pi_list (pv 0)) (pg_name (i := 3) sc__law_once_each.nd rfl (Or.inl rfl))
      (pss_cons (ps_set (i := 4) sc__law_once_each.nd rfl (Or.inl rfl) (pe_dget2 (hu_of hr) (pv 1) (pv 3) (pv 3) ⟨rfl, rfl, rfl, rfl⟩))
      (pss_one (ps_if (pt_cmpR op_notIn_seq (pv 4) (pv 2) (by rfl))
        (pss_one (ps_expr (pe_bm PySem.F.plainAttrs_list PySem.F.slot_list_append PySem.F.type_list_append mt_append (pv 2) (pa_cons (pv 4) pa_nil))))
        pss_nil))))
    (pss_one (ps_ret (pv 2))))), ?_⟩
  refine ⟨Nat.zero_le _, fun H1 F s1 nF hF => ?_⟩
  have hrl1 := s1 _ _ hrl
  have hR1 := s1 _ _ hR
  have Fr : rl ≠ F := ne_of_none hrl nF
  have FR : R ≠ F := ne_of_none hR nF
  have lone : ∀ {a b : Addr}, a ≠ b → a ∉ [b] := fun h m => h (List.mem_singleton.mp m)
  refine ⟨_, rfl, rl, rfl, ⟨_, SqL.of hrl1⟩, ?_⟩
  refine for_list (xs := refs.map kV) (fun i σ' H' => ∃ y3 y4, σ' = [some (.ref rl), some (.ref R), some (.ref F), y3, y4] ∧ Kp [F] H1 H' ∧ H' F = some (.lst ((addTo [] ((refs.take i).map ρ.to)).map kV)))
    ⟨none, none, rfl, Kp.refl _, hF⟩ ?_ ?_ ?_
  · rintro i σ' H' _ ⟨y3, y4, _, k', _⟩
    exact k'.seqL (lone Fr) (SqL.of hrl1)
  · rintro i x σ' H' hi ⟨y3, y4, rfl, k', hF'⟩
    rw [List.getElem?_map] at hi
    cases hc : refs[i]? with
    | none => rw [hc] at hi; cases hi
    | some r =>
      rw [hc] at hi
      cases hi
      have hR' := k' R _ (lone FR) hR1
      have g : DGet H' R (kV r) _ := DGet.k (k := r) hR'
      rw [Ren.valV] at g
      have gt : ((ρ.look r).map kV).getD (kV r) = kV (ρ.to r) := by
        unfold Ren.to
        cases ρ.look r <;> rfl
      refine ⟨_, rfl, R, rfl, .inl ⟨_, .inl hR'⟩, _, rfl, _, rfl, _, g, ?_⟩
      rw [gt]
      have nx : addTo [] ((refs.take (i + 1)).map ρ.to) = if ρ.to r ∈ addTo [] ((refs.take i).map ρ.to) then addTo [] ((refs.take i).map ρ.to) else addTo [] ((refs.take i).map ρ.to) ++ [ρ.to r] := by
        rw [List.take_add_one, hc, List.map_append, addTo_app]
        rfl
      refine ⟨_, rfl, _, rfl, F, _, rfl, .inl (SqL.of hF'), flat_key _, flat_keys _, _, rfl, iteB (fun e => ?_) fun e => ?_⟩
      · have e' : (!inV (kV (ρ.to r)) ((addTo [] ((refs.take i).map ρ.to)).map kV)) = true := e
        rw [inV_key, Bool.not_eq_true', decide_eq_false_iff_not] at e'
        rw [if_neg e'] at nx
        have la := addTo_len ((refs.take i).map ρ.to) []
        rw [List.length_map, List.length_take, List.length_nil] at la
        refine ⟨_, rfl, .inl ⟨rfl, _, SqL.of hF'⟩, _, rfl, F, _, _, rfl, rfl, hF', sz_lt (by rw [List.length_map]; omega), _, _, rfl, k'.trans (Kp.wr (.head _)), ?_⟩
        rw [upd_same, nx, List.map_append]; rfl
      · have e' : (!inV (kV (ρ.to r)) ((addTo [] ((refs.take i).map ρ.to)).map kV)) = false := e
        rw [inV_key, Bool.not_eq_false', decide_eq_true_iff] at e'
        rw [if_pos e'] at nx
        exact ⟨_, _, rfl, k', by rw [nx]; exact hF'⟩
  · rintro σ' H' ⟨y3, y4, rfl, k', hF'⟩
    rw [List.length_map, List.take_length] at hF'
    exact ⟨_, rfl, q H' F (s1.kp k' nF) nF hF'⟩
end
end HA

/-! Told trees and lists are the due ones. -/
namespace HA
open PySem PySem.Spec PyProof.Rows L2
theorem Ren.look_mem {ρ : Ren} (nd : (ρ.map (·.1)).Nodup) {p : Key × Key} (h : p ∈ ρ) : ρ.look p.1 = some p.2 := by
  induction ρ with
  | nil => cases h
  | cons q ρ ih =>
    rw [List.map_cons, List.nodup_cons] at nd
    rw [Ren.look_cons]
    rcases List.mem_cons.mp h with rfl | h
    · rw [if_pos rfl]
    · have ne : ¬ q.1 = p.1 := fun e => nd.1 (by rw [e]; exact List.mem_map_of_mem h)
      rw [if_neg ne]
      exact ih nd.2 h
theorem flatB_key (r : Key) : flatB (kV r) = true := by cases r <;> rfl
theorem DpAll.keys {K : PySem.W.Frag} {H : Hp} : ∀ l : List Key, DpAll K H (l.map kV) (l.map kD)
  | [] => .nil
  | r :: l => .cons (Dp.key r) (DpAll.keys l)
theorem fine_keys : ∀ {l : List Key}, (∀ r ∈ l, fine (kD r) = true) → fineAll (l.map kD) = true
  | [], _ => rfl
  | r :: l, h => by
    show (fine (kD r) && fineAll (l.map kD)) = true
    rw [h r (.head _), fine_keys fun q hq => h q (.tail _ hq)]; rfl
theorem nodes_keys : ∀ l : List Key, nodesAll (l.map kD) = l.length
  | [] => rfl
  | r :: l => by
    show nodes (kD r) + nodesAll (l.map kD) = _
    rw [nodes_key, nodes_keys l, List.length_cons]; omega
theorem depth_keys : ∀ l : List Key, PyData.depthAll (l.map kD) ≤ 1
  | [] => by decide
  | r :: l => by
    have := depth_keys l
    simp only [List.map_cons, PyData.depthAll, depth_key]
    omega
theorem un200 {k : Nat} {A : Around} (h : Room k A) : A.units + 200 < cLine := by
  have := h.un
  omega
section
variable {P : Program} {w : World} {K : PySem.W.Frag} {mg : Str → Option Value} {base : Heap}
def spIsTree (K : PySem.W.Frag) : Sp := fun vs H Q _ => ∃ (v v' : V) (t : Row), vs = [v, v'] ∧ Dp K H v t.d ∧ Dp K H v' t.d ∧
  fine t.d = true ∧ t.d.depth ≤ 64 ∧ nodes t.d ≤ 8000 ∧ Q (.bl true) H
theorem ok_is_tree (T : Tx K w mg) {k : Nat} : GnOk P w K mg base CX0 (k + 1) T.a__law_is_tree T.d__law_is_tree ["told", "due"] (spIsTree K) := by
  refine gn_ok T.F__law_is_tree sc__law_is_tree (fun vs H Q E h => ?_) (fun cdv A outer s H vs Q E hG hr h => ?_)
  · obtain ⟨v, v', t, rfl, _⟩ := h
    rfl
  obtain ⟨v, v', t, rfl, h1, h2, hf, hd, hn, q⟩ := h
  refine ⟨_, (pss_one (ps_ret (pe_and (pe_callB call_isi (by rfl) T.z_isinstance (by decide +kernel) (pa_cons (pv 0) (pa_cons (pe_bltn (v := .ty "tuple") (by rfl) T.z_tuple (by decide +kernel) rfl) pa_nil))) (pe_and (pe_cmpR (op_eqD hr.units) (pv 0) (pv 1) (nomark _)) (pe_one (pe_cmpR op_eq (pe_callB (call_reprD hG (un200 hr)) (by rfl) T.z_repr (by decide +kernel) (pa_cons (pv 0) pa_nil)) (pe_callB (call_reprD hG (un200 hr)) (by rfl) T.z_repr (by decide +kernel) (pa_cons (pv 1) pa_nil)) (nomark _))))))), ?_⟩
  obtain ⟨a, xs, rfl, s1, _⟩ := Row.at_ h1
  obtain ⟨b, ys, rfl, s2, _⟩ := Row.at_ h2
  have sh := fine_shaped hf hd
  obtain ⟨l1, l2, l3⟩ := fine_lay _ hf
  have sz : t.d.shown.length ≤ sizeLine := by
    have := shown_len _ hf
    rw [sizeLine_eq]
    omega
  refine ⟨_, rfl, _, _, _, .type "tuple", _, rfl, .ty _, ty_tup s1, kit_tt, true, rfl, ?_⟩
  refine iteT ⟨_, rfl, _, rfl, t.d, t.d, h1, h2, sh, sh, true, ?_, ?_⟩
  · rw [SeqAt.eqv_refl _ l1]
  refine iteT ⟨_, rfl, a, t.d, rfl, h1, l2, l3, by omega, sz, _, rfl, b, t.d, rfl, h2, l2, l3, by omega, sz, ?_⟩
  refine ⟨rfl, ?_⟩
  rw [decide_eq_true rfl]
  exact q
def spMoves (K : PySem.W.Frag) : Sp := fun vs H Q _ => ∃ (v v' : V) (t : Row) (old new : Int) (R : Addr) (ρ : Ren), vs = [v, .int old, .int new, .ref R, v'] ∧
  Dp K H v t.d ∧ t.ht ≤ 40 ∧ H R = some (.dK ρ.kv) ∧ (ρ.map (·.1)).Nodup ∧ Dp K H v' (t.mv old new ρ).d ∧
  fine (t.mv old new ρ).d = true ∧ t.d.depth ≤ 64 ∧ nodes t.d ≤ 8000 ∧ ∀ H', Same H H' → Q (.bl true) H'
theorem ok_moves (T : Tx K w mg) {k : Nat} : GnOk P w K mg base CX0 (k + 42) T.a__law_moves T.d__law_moves ["tree", "old", "new", "names", "due"] (spMoves K) := by
  have G_moved := (ok_moved (P := P) (base := base) T 40).mono (show 41 ≤ k + 41 by omega)
  have G__law_is_tree := ok_is_tree (P := P) (base := base) T (k := k + 40)
  refine gn_ok T.F__law_moves sc__law_moves (fun vs H Q E h => ?_) (fun cdv A outer s H vs Q E hG hr h => ?_)
  · obtain ⟨v, v', t, old, new, R, ρ, rfl, _⟩ := h
    rfl
  obtain ⟨v, v', t, old, new, R, ρ, rfl, ht, hh, hR, nd, hd, hf, dp, nn, q⟩ := h
  refine ⟨_, (pss_cons (ps_set (i := 5) sc__law_moves.nd rfl (Or.inl rfl) (pe_callTy call_dictN (by rfl) T.z_dict (by decide +kernel) (pa_cons (pv 3) pa_nil)))
    (pss_cons (ps_set (i := 6) sc__law_moves.nd rfl (Or.inl rfl) (pe_call (G_moved) hr (by rfl) T.g_moved T.k_moved T.b_moved .nil pass0 (pa_cons (pv 0) (pa_cons (pv 1) (pa_cons (pv 2) (pa_cons (pv 5) pa_nil))))))
    (pss_one (ps_ret (pe_and (pe_callG (G__law_is_tree) hG hr (by rfl) T.g__law_is_tree T.k__law_is_tree T.b__law_is_tree .nil pass0 (pa_cons (pv 6) (pa_cons (pv 4) pa_nil))) (pe_one (pe_cmpR (op_eq_dictA hr.units0) (pv 5) (pv 3) (nomark _)))))))), ?_⟩
  refine ⟨_, rfl, R, ρ.kv, rfl, .inl hR, fun H1 D s1 nD hD => ?_⟩
  refine ⟨_, rfl, _, rfl, _, rfl, _, rfl, v, t, old, new, D, ρ, rfl, Dp.sm s1 _ _ ht, hh, hD, fun H2 u s2 hu => ?_⟩
  have s12 := s1.trans s2
  refine ⟨_, rfl, _, rfl, u, v', _, rfl, hu, Dp.sm s12 _ _ hd, hf, by rw [Row.mv_depth]; exact dp, by rw [Row.mv_nodes]; exact nn, true, rfl, ?_⟩
  refine iteT ⟨_, rfl, _, rfl, D, R, ρ.kv, ρ.kv, rfl, rfl, s2 _ _ hD, s12 _ _ hR, rfl, fun p hp => ?_, q H2 s12⟩
  obtain ⟨q1, hq1, rfl⟩ := List.mem_map.mp hp
  refine ⟨?_, flatB_key _⟩
  rw [Ren.valV, Ren.look_mem nd hq1]
  rfl
def spLists (K : PySem.W.Frag) : Sp := fun vs H Q _ => ∃ (v : V) (t : Row) (level : Int) (D : Addr), vs = [v, .int level, .ref D] ∧
  Dp K H v t.d ∧ t.ht ≤ 40 ∧ t.sz ≤ 2000 ∧ H D = some (.lst ((t.free level).map kV)) ∧ (∀ r ∈ t.free level, fine (kD r) = true) ∧ ∀ H', Same H H' → Q (.bl true) H'
theorem ok_lists (T : Tx K w mg) {k : Nat} : GnOk P w K mg base CX0 (k + 42) T.a__law_lists T.d__law_lists ["tree", "level", "due"] (spLists K) := by
  have G_free_refs := (ok_free (P := P) (base := base) T 40).mono (show 41 ≤ k + 41 by omega)
  refine gn_ok T.F__law_lists sc__law_lists (fun vs H Q E h => ?_) (fun cdv A outer s H vs Q E hG hr h => ?_)
  · obtain ⟨v, t, level, D, rfl, _⟩ := h
    rfl
  obtain ⟨v, t, level, D, rfl, ht, hh, hz, hD, hf, q⟩ := h
  have len := free_len t level
  have dfine : fine (.list ((t.free level).map kD)) = true := fine_keys hf
  obtain ⟨l1, l2, l3⟩ := fine_lay _ dfine
  have ddep : (PyData.list ((t.free level).map kD)).depth ≤ 100 := by
    have := depth_keys (t.free level)
    simp only [PyData.depth]
    omega
  have sz : (PyData.list ((t.free level).map kD)).shown.length ≤ sizeLine := by
    have h1 := shown_len _ dfine
    have h2 : nodes (.list ((t.free level).map kD)) = (t.free level).length + 1 := by
      rw [← nodes_keys]; rfl
    rw [h2] at h1
    rw [sizeLine_eq]
    omega
  refine ⟨_, (pss_cons (ps_for PassesOwn.never rfl (pi_range1 (by rfl) T.z_range (pa_cons pe_int pa_nil)) (pg_name (i := 3) sc__law_lists.nd rfl (Or.inl rfl))
      (pss_cons (ps_set (i := 4) sc__law_lists.nd rfl (Or.inl rfl) (pe_call (G_free_refs) hr (by rfl) T.g_free_refs T.k_free_refs T.b_free_refs .nil pass0 (pa_cons (pv 0) (pa_cons (pv 1) pa_nil))))
      (pss_cons (ps_if (PW.pt (pw_or (pt_not (pt_val (pe_callB call_isi (by rfl) T.z_isinstance (by decide +kernel) (pa_cons (pv 4) (pa_cons (pe_bltn (v := .ty "list") (by rfl) T.z_list (by decide +kernel) rfl) pa_nil))))) (pw_or1 (pt_cmpR op_ne (pe_callB (call_reprD hG (un200 hr)) (by rfl) T.z_repr (by decide +kernel) (pa_cons (pv 4) pa_nil)) (pe_callB (call_reprD hG (un200 hr)) (by rfl) T.z_repr (by decide +kernel) (pa_cons (pv 2) pa_nil)) (nomark _)))))
        (pss_one (ps_ret pe_bl))
        pss_nil)
      (pss_cons (ps_expr (pe_bm0 PySem.F.plainAttrs_list PySem.F.slot_list_reverse PySem.F.type_list_reverse mt_reverse (pv 4)))
      (pss_one (ps_expr (pe_bm PySem.F.plainAttrs_list PySem.F.slot_list_append PySem.F.type_list_append mt_append (pv 4) (pa_cons pe_str pa_nil))))))))
    (pss_one (ps_ret pe_bl))), ?_⟩
  refine ⟨2, rfl, by decide, by decide, ?_⟩
  refine for_range (lo := 0) (n := 2) (fun i σ' H' => ∃ y3 y4, σ' = [some v, some (.int level), some (.ref D), y3, y4] ∧ Same H H') ⟨none, none, rfl, Same.refl H⟩ ?_ ?_
  · rintro i σ' H' hi ⟨y3, y4, rfl, k'⟩
    refine ⟨_, rfl, _, rfl, v, t, level, rfl, Dp.sm k' _ _ ht, hh, by omega, fun H1 p s1 np hp => ?_⟩
    have s01 := k'.trans s1
    have hD1 := s01 _ _ hD
    refine ⟨_, rfl, _, _, _, .type "list", _, rfl, .ty _, ty_lst (SqL.of hp), kit_ll, _, rfl, ?_⟩
    refine iteF ⟨_, rfl, p, _, rfl, .lst (SqL.of hp) (DpAll.keys _), l2, l3, ddep, sz, _, rfl, D, _, rfl, .lst (SqL.of hD1) (DpAll.keys _), l2, l3, ddep, sz, rfl, _, rfl, iteB (fun z => ?_) (fun z => ?_)⟩
    · rw [decide_eq_true rfl] at z
      cases z
    refine ⟨_, rfl, .inl ⟨rfl, _, SqL.of hp⟩, p, _, rfl, rfl, hp, ?_⟩
    refine ⟨_, rfl, .inl ⟨rfl, _, SqL.of upd_same⟩, p, _, _, rfl, rfl, upd_same, sz_lt (by rw [List.length_reverse, List.length_map]; omega), ?_⟩
    refine ⟨_, _, rfl, ?_⟩
    have k2 : Kp [p] H1 (upd (upd H1 p (.lst ((t.free level).map kV).reverse)) p (.lst (((t.free level).map kV).reverse ++ [V.str "spoilt"]))) := Kp.trans (Kp.wr (.head _)) (Kp.wr (.head _))
    exact k'.trans (Same.kp s1 k2 np)
  · rintro σ' H' ⟨y3, y4, rfl, k'⟩
    exact q H' k'

end
end HA

/-! Two hops. -/
namespace HA
open PySem PySem.Spec PyProof.Rows L2
/-- a derivation of a level, not too big -/
structure TreeOk (names : List Str) (a hi : Int) (t : Row) : Prop where
  fine : fine t.d = true
  dep : t.d.depth ≤ 64
  nodes : nodes t.d ≤ 8000
  ht : t.ht ≤ 40
  sz : t.sz ≤ 2000
  refs : RefsOk names a hi t
  hi : hi ≤ 100000
theorem TreeOk.mv {names : List Str} {a b hi : Int} {t : Row} {ρ : Ren} (h : TreeOk names a hi t) (ok : ∀ x ∈ names, NameOk x) (a0 : 0 ≤ a) (b0 : 0 ≤ b) (b1 : b ≤ 1000) (hh : hi + b - a ≤ 100000)
    (im : ∀ r, TargetIn names a r → TargetIn names b (ρ.to r)) : TreeOk names b (hi + b - a) (t.mv a b ρ) := by
  have rf := refs_mv_ok h.refs im
  have ff := refs_fine ok rf b0 (by omega) (by omega)
  refine ⟨Row.mv_fine t h.fine fun r hr => ?_, by rw [Row.mv_depth]; exact h.dep, by rw [Row.mv_nodes]; exact h.nodes, by rw [Row.mv_ht]; exact h.ht, by rw [Row.mv_sz]; exact h.sz, rf, hh⟩
  refine ff _ ?_
  rw [Row.refs_mv]
  exact List.mem_map_of_mem hr
theorem TreeOk.free {names : List Str} {a hi : Int} {t : Row} (h : TreeOk names a hi t) (ok : ∀ x ∈ names, NameOk x) (a0 : 0 ≤ a) (a1 : a ≤ 1000) (level : Int) : ∀ r ∈ t.free level, HA.fine (kD r) = true := by
  intro r hr
  refine refs_fine ok h.refs a0 (by omega) (by have := h.hi; omega) r ?_
  rcases mem_addTo.mp hr with z | z
  · cases z
  · exact (List.mem_filter.mp z).1
theorem outer_kv (names : List Str) {b : Int} (h : 0 ≤ b) : names.map V.str ++ rgV 0 b = (outerOf names b).map kV := by
  unfold outerOf rgV
  rw [List.map_append, List.map_map, List.map_map, Int.sub_zero]
  refine congrArg (_ ++ ·) (List.map_congr_left fun i _ => ?_)
  show V.int (0 + (i : Int)) = V.int (i : Int)
  rw [Int.zero_add]
theorem outer_len (names : List Str) (b : Int) : (outerOf names b).length = names.length + b.toNat := by
  unfold outerOf
  rw [List.length_append, List.length_map, List.length_map, List.length_range]
/-- what the questions are put with -/
structure Drw (H : Hp) (S n o p : Addr) (l : V) (names : List Str) (a most : Int) : Prop where
  dict : H S = some (.dK (stKvs l (.ref n) (.int a) (.ref o) (.int most)))
  hn : H n = some (.lst (names.map V.str))
  ho : H o = some (.lst ((outerOf names a).map kV))
  pool : Pool H p
  ok : ∀ x ∈ names, NameOk x
  nd : names.Nodup
  n0 : 0 < names.length
  n4 : names.length ≤ 4
  a0 : 0 ≤ a
  a9 : a < 10
  np : n ≠ p
  op : o ≠ p
namespace Drw
variable {H H' : Hp} {S n o p : Addr} {l : V} {names : List Str} {a most : Int}
theorem sp (st : Drw H S n o p l names a most) : S ≠ p := by
  obtain ⟨a, b, c, e, _⟩ := st.pool
  exact ne_of st.dict e fun z => by cases z
theorem kp (st : Drw H S n o p l names a most) (k : Kp [p] H H') (q : Pool H' p) : Drw H' S n o p l names a most :=
  ⟨k _ _ (by simp [st.sp]) st.dict, k _ _ (by simp [st.np]) st.hn, k _ _ (by simp [st.op]) st.ho, q, st.ok, st.nd, st.n0, st.n4, st.a0, st.a9, st.np, st.op⟩
theorem sm (st : Drw H S n o p l names a most) (k : Same H H') : Drw H' S n o p l names a most := st.kp (Kp.of k) (st.pool.kp (S := []) (by simp) (Kp.of k))
theorem gNames (st : Drw H S n o p l names a most) : DGet H S (.str "names") (some (.ref n)) := DGet.k (k := .inr "names") st.dict
theorem gOuter (st : Drw H S n o p l names a most) : DGet H S (.str "outer") (some (.ref o)) := DGet.k (k := .inr "outer") st.dict
end Drw
theorem mem_outer_in {names : List Str} {a : Int} {r : Key} (h : r ∈ outerOf names a) : TargetIn names a r := mem_outer.mp h
section
variable {P : Program} {w : World} {K : PySem.W.Frag} {mg : Str → Option Value} {base : Heap}
def spTwoHops (K : PySem.W.Frag) : Sp := fun vs H Q _ => ∃ (S n o p L : Addr) (l v : V) (names : List Str) (a b c hi most : Int) (t : Row), vs = [.ref S, v, .ref p, .ref L] ∧
  Drw H S n o p l names a most ∧ SqT K H L [.int a, .int b, .int c] ∧ 0 ≤ b ∧ b < 10 ∧ 0 ≤ c ∧ c < 10 ∧ Dp K H v t.d ∧ TreeOk names a hi t ∧ hi ≤ 1000 ∧
  ∀ H', Kp [p] H H' → Pool H' p → Q (.bl true) H'
theorem ok_two_hops (T : Tx K w mg) {k : Nat} : GnOk P w K mg base CX0 (k + 43) T.a__law_two_hops T.d__law_two_hops ["state", "tree", "pool", "levels"] (spTwoHops K) := by
  have G__law_renaming := ok_renaming (P := P) (base := base) T (k := k + 39)
  have G__law_next := ok_next (P := P) (base := base) T (k := k + 41)
  have G__law_moved := (ok_lmoved (P := P) (base := base) T 40).mono (show 41 ≤ k + 42 by omega)
  have G_moved := (ok_moved (P := P) (base := base) T 40).mono (show 41 ≤ k + 42 by omega)
  have G__law_moves := ok_moves (P := P) (base := base) T (k := k)
  have G__law_lists := ok_lists (P := P) (base := base) T (k := k)
  have G__law_outside := ok_outside (P := P) (base := base) T (k := k + 40)
  have G__law_once_each := ok_once (P := P) (base := base) T (k := k + 41)
  refine gn_ok T.F__law_two_hops sc__law_two_hops (fun vs H Q E h => ?_) (fun cdv A outer s H vs Q E hG hr h => ?_)
  · obtain ⟨S, n, o, p, L, l, v, names, a, b, c, hi, most, t, rfl, _⟩ := h
    rfl
  obtain ⟨S, n, o, p, L, l, v, names, a, b, c, hi, most, t, rfl, st, hL, b0, b9, c0, c9, ht, tok, hhi, q⟩ := h
  have a0 := st.a0
  have a9 := st.a9
  have n0 := st.n0
  have n4 := st.n4
  refine ⟨_, (pss_cons (ps_asg (pv 3) (pg_tup (by rfl) (pgs_cons (pg_name (i := 4) sc__law_two_hops.nd rfl (Or.inl rfl)) (pgs_cons (pg_name (i := 5) sc__law_two_hops.nd rfl (Or.inl rfl)) (pgs_cons (pg_name (i := 6) sc__law_two_hops.nd rfl (Or.inl rfl)) pgs_nil)))))
    (pss_cons (ps_set (i := 7) sc__law_two_hops.nd rfl (Or.inl rfl) (pe_dget (hu_of hr) (pv 0) pe_str (fun _ _ => rfl)))
    (pss_cons (ps_set (i := 8) sc__law_two_hops.nd rfl (Or.inl rfl) (pe_call (G__law_renaming) hr (by rfl) T.g__law_renaming T.k__law_renaming T.b__law_renaming .nil pass0 (pa_cons (pv 2) (pa_cons (pe_dget (hu_of hr) (pv 0) pe_str (fun _ _ => rfl)) (pa_cons (pv 7) (pa_cons (pv 4) (pa_cons (pv 5) pa_nil)))))))
    (pss_cons (ps_set (i := 9) sc__law_two_hops.nd rfl (Or.inl rfl) (pe_call (G__law_renaming) hr (by rfl) T.g__law_renaming T.k__law_renaming T.b__law_renaming .nil pass0 (pa_cons (pv 2) (pa_cons (pe_op op_catL (pv 7) (pe_listRg rfl (by rfl) T.z_list (prg_1 (by rfl) T.z_range (pv 5)))) (pa_cons (pv 7) (pa_cons (pv 5) (pa_cons (pv 6) pa_nil)))))))
    (pss_cons (ps_set (i := 10) sc__law_two_hops.nd rfl (Or.inl rfl) pe_dictN)
    (pss_cons (ps_for PassesOwn.never rfl (pi_list (pe_dget (hu_of hr) (pv 0) pe_str (fun _ _ => rfl))) (pg_name (i := 11) sc__law_two_hops.nd rfl (Or.inl rfl))
      (pss_cons (ps_set (i := 12) sc__law_two_hops.nd rfl (Or.inl rfl) (pe_dget2 (hu_of hr) (pv 8) (pv 11) (pv 11) ⟨rfl, rfl, rfl, rfl⟩))
      (pss_one (ps_dput (hu_of hr) (pv 10) (pv 11) (pe_dget2 (hu_of hr) (pv 9) (pv 12) (pv 12) ⟨rfl, rfl, rfl, rfl⟩) rfl))))
    (pss_cons (ps_dput (hu_of hr) (pv 10) (pe_op op_add (pv 4) (pe_call (G__law_next) hr (by rfl) T.g__law_next T.k__law_next T.b__law_next .nil pass0 (pa_cons (pv 2) (pa_cons pe_int pa_nil)))) (pe_ix ix_list (pv 7) pe_int (fun _ _ => rfl)) rfl)
    (pss_cons (ps_set (i := 13) sc__law_two_hops.nd rfl (Or.inl rfl) (pe_call (G__law_moved) hr (by rfl) T.g__law_moved T.k__law_moved T.b__law_moved .nil pass0 (pa_cons (pv 1) (pa_cons (pv 4) (pa_cons (pv 5) (pa_cons (pv 8) pa_nil))))))
    (pss_cons (ps_set (i := 14) sc__law_two_hops.nd rfl (Or.inl rfl) (pe_call (G__law_moved) hr (by rfl) T.g__law_moved T.k__law_moved T.b__law_moved .nil pass0 (pa_cons (pv 13) (pa_cons (pv 5) (pa_cons (pv 6) (pa_cons (pv 9) pa_nil))))))
    (pss_cons (ps_if (PW.pt (pw_or (pt_not (pt_val (pe_callG (G__law_moves) hG hr (by rfl) T.g__law_moves T.k__law_moves T.b__law_moves .nil pass0 (pa_cons (pv 1) (pa_cons (pv 4) (pa_cons (pv 5) (pa_cons (pv 8) (pa_cons (pv 13) pa_nil)))))))) (pw_or1 (pt_not (pt_val (pe_callG (G__law_moves) hG hr (by rfl) T.g__law_moves T.k__law_moves T.b__law_moves .nil pass0 (pa_cons (pv 13) (pa_cons (pv 5) (pa_cons (pv 6) (pa_cons (pv 9) (pa_cons (pv 14) pa_nil)))))))))))
      (pss_one (ps_ret pe_bl))
      pss_nil)
    (pss_cons (ps_if (PW.pt (pw_or (pt_not (pt_val (pe_callG (G__law_moves) hG hr (by rfl) T.g__law_moves T.k__law_moves T.b__law_moves .nil pass0 (pa_cons (pe_call (G_moved) hr (by rfl) T.g_moved T.k_moved T.b_moved .nil pass0 (pa_cons (pv 1) (pa_cons (pv 4) (pa_cons (pv 5) (pa_cons (pe_callTy call_dictN (by rfl) T.z_dict (by decide +kernel) (pa_cons (pv 8) pa_nil)) pa_nil))))) (pa_cons (pv 5) (pa_cons (pv 6) (pa_cons (pv 9) (pa_cons (pv 14) pa_nil)))))))) (pw_or1 (pt_not (pt_val (pe_callG (G__law_moves) hG hr (by rfl) T.g__law_moves T.k__law_moves T.b__law_moves .nil pass0 (pa_cons (pv 1) (pa_cons (pv 4) (pa_cons (pv 6) (pa_cons (pv 10) (pa_cons (pv 14) pa_nil)))))))))))
      (pss_one (ps_ret pe_bl))
      pss_nil)
    (pss_cons (ps_set (i := 15) sc__law_two_hops.nd rfl (Or.inl rfl) (pe_call (G__law_outside) hr (by rfl) T.g__law_outside T.k__law_outside T.b__law_outside .nil pass0 (pa_cons (pv 1) (pa_cons (pv 4) pa_nil))))
    (pss_cons (ps_if (PW.pt (pw_or (pt_not (pt_val (pe_callG (G__law_lists) hG hr (by rfl) T.g__law_lists T.k__law_lists T.b__law_lists .nil pass0 (pa_cons (pv 1) (pa_cons (pv 4) (pa_cons (pv 15) pa_nil)))))) (pw_or1 (pt_not (pt_val (pe_callG (G__law_lists) hG hr (by rfl) T.g__law_lists T.k__law_lists T.b__law_lists .nil pass0 (pa_cons (pv 13) (pa_cons (pv 5) (pa_cons (pe_call (G__law_once_each) hr (by rfl) T.g__law_once_each T.k__law_once_each T.b__law_once_each .nil pass0 (pa_cons (pv 15) (pa_cons (pv 8) pa_nil))) pa_nil)))))))))
      (pss_one (ps_ret pe_bl))
      pss_nil)
    (pss_one (ps_ret (pe_and (pe_callG (G__law_lists) hG hr (by rfl) T.g__law_lists T.k__law_lists T.b__law_lists .nil pass0 (pa_cons (pv 14) (pa_cons (pv 6) (pa_cons (pe_call (G__law_once_each) hr (by rfl) T.g__law_once_each T.k__law_once_each T.b__law_once_each .nil pass0 (pa_cons (pv 15) (pa_cons (pv 10) pa_nil))) pa_nil)))) (pe_one (pe_callG (G__law_moves) hG hr (by rfl) T.g__law_moves T.k__law_moves T.b__law_moves .nil pass0 (pa_cons (pv 1) (pa_cons (pv 4) (pa_cons (pv 5) (pa_cons (pv 8) (pa_cons (pv 13) pa_nil))))))))))))))))))))))), ?_⟩
  -- a, b, c = levels; names
  refine ⟨_, rfl, L, _, rfl, hL, rfl, _, _, rfl, _, _, rfl, _, _, rfl, rfl, ?_⟩
  refine ⟨_, rfl, S, .ref n, rfl, st.gNames, ?_⟩
  -- one
  refine ⟨_, rfl, _, rfl, S, .ref o, rfl, st.gOuter, _, rfl, _, rfl, _, rfl, p, o, n, outerOf names a, names, a, b, rfl, st.pool, st.ho, st.op, by rw [outer_len]; omega, st.hn, n0, by omega, st.ok, b0, by omega,
    fun H1 D1 ρ1 k1 nD1 hD1 ok1 z1 p1 => ?_⟩
  have st1 := st.kp k1 p1
  -- two
  refine ⟨_, rfl, _, rfl, _, rfl, b, rfl, RgOk.of_le (by omega) (by omega) (by omega) (by omega), fun g hg => ?_⟩
  have sg : Same H1 (upd H1 g (.lst (rgV 0 b))) := Same.new hg
  refine ⟨n, g, _, _, rfl, rfl, sg _ _ st1.hn, upd_same, sz_le (by rw [List.length_map, rgV_length]; omega), fun H2 u s2 nu hu => ?_⟩
  rw [outer_kv names b0] at hu
  have s12 := sg.trans s2
  have st2 := st1.sm s12
  have up : u ≠ p := by
    obtain ⟨x, y, z, e, _⟩ := (st1.sm sg).pool
    rintro rfl
    rw [nu] at e
    cases e
  refine ⟨_, rfl, _, rfl, _, rfl, p, u, n, outerOf names b, names, b, c, rfl, st2.pool, hu, up, by rw [outer_len]; omega, st2.hn, n0, by omega, st.ok, c0, by omega,
    fun H3 D2 ρ2 k3 nD2 hD2 ok2 z2 p3 => ?_⟩
  have st3 := st2.kp k3 p3
  have k13 : Kp [p] H1 H3 := (Kp.of s12).trans k3
  have D1p : D1 ≠ p := by
    obtain ⟨x, y, z, e, _⟩ := p1
    exact ne_of hD1 e fun z => by cases z
  have D2p : D2 ≠ p := by
    obtain ⟨x, y, z, e, _⟩ := p3
    exact ne_of hD2 e fun z => by cases z
  have hD1' := k13 _ _ (by simp [D1p]) hD1
  -- both = {}
  refine fun H4 D3 s4 nD3 hD3 => ?_
  have st4 := st3.sm s4
  have hD14 := s4 _ _ hD1'
  have hD24 := s4 _ _ hD2
  have D13 : D1 ≠ D3 := ne_of_none hD1' nD3
  have D23 : D2 ≠ D3 := ne_of_none hD2 nD3
  have Dp3 : p ≠ D3 := by
    obtain ⟨x, y, z, e, _⟩ := p3
    exact ne_of_none e nD3
  have Do3 : o ≠ D3 := ne_of_none st3.ho nD3
  have Dn3 : n ≠ D3 := ne_of_none st3.hn nD3
  refine ⟨_, rfl, S, .ref o, rfl, st4.gOuter, o, rfl, ⟨_, SqL.of st4.ho⟩, ?_⟩
  refine for_list (xs := (outerOf names a).map kV) (fun i σ' H' => ∃ (y11 y12 : Option V) (ρ : Ren), σ' = [some (.ref S), some v, some (.ref p), some (.ref L), some (.int a), some (.int b), some (.int c), some (.ref n), some (.ref D1), some (.ref D2), some (.ref D3), y11, y12, none, none, none] ∧
      Kp [D3] H4 H' ∧ H' D3 = some (.dK ρ.kv) ∧ ρ.length ≤ i ∧ (ρ.map (·.1)).Nodup ∧ ∀ r ∈ (outerOf names a).take i, ρ.look r = some (ρ2.to (ρ1.to r)))
    ⟨none, none, [], rfl, Kp.refl _, hD3, Nat.le_refl _, List.nodup_nil, fun r hr => by cases hr⟩ ?_ ?_ ?_
  · rintro i σ' H' _ ⟨y11, y12, ρ, _, k', _⟩
    exact k'.seqL (by simp [Do3]) (SqL.of st4.ho)
  · rintro i x σ' H' hi ⟨y11, y12, ρ, rfl, k', hD', lρ, nd, al⟩
    rw [List.getElem?_map] at hi
    cases hc : (outerOf names a)[i]? with
    | none => rw [hc] at hi; cases hi
    | some r =>
      rw [hc] at hi
      cases hi
      have ilt := (List.getElem?_eq_some_iff.mp hc).1
      rw [outer_len] at ilt
      have hA := k' D1 _ (by simp [D13]) hD14
      have hB := k' D2 _ (by simp [D23]) hD24
      have g1 : DGet H' D1 (kV r) _ := DGet.k (k := r) hA
      rw [Ren.valV] at g1
      refine ⟨_, rfl, D1, rfl, .inl ⟨_, .inl hA⟩, _, rfl, _, rfl, _, g1, ?_⟩
      have gt : ((ρ1.look r).map kV).getD (kV r) = kV (ρ1.to r) := by
        unfold Ren.to
        cases ρ1.look r <;> rfl
      rw [gt]
      have g2 : DGet H' D2 (kV (ρ1.to r)) _ := DGet.k (k := ρ1.to r) hB
      rw [Ren.valV] at g2
      have gt2 : ((ρ2.look (ρ1.to r)).map kV).getD (kV (ρ1.to r)) = kV (ρ2.to (ρ1.to r)) := by
        unfold Ren.to
        cases ρ2.look ((ρ1.look r).getD r) <;> rfl
      refine ⟨_, rfl, D2, rfl, .inl ⟨_, .inl hB⟩, _, rfl, _, rfl, _, g2, ?_⟩
      rw [gt2]
      refine ⟨_, rfl, _, rfl, D3, _, rfl, DPut.k (k := r) hD' (by rw [Ren.kv_len]; exact sz_lt (by omega)), ?_⟩
      refine ⟨_, _, ρ.put r (ρ2.to (ρ1.to r)), rfl, k'.trans (Kp.wr (.head _)), ?_, by have := Ren.put_len ρ r (ρ2.to (ρ1.to r)); omega, Ren.put_nodup _ _ nd, fun q hq => ?_⟩
      · rw [upd_same, Ren.kv_put]
      · rw [Ren.look_put]
        by_cases e : r = q
        · rw [if_pos e, e]
        · rw [if_neg e]
          rw [List.take_add_one, hc] at hq
          rcases List.mem_append.mp hq with hq | hq
          · exact al q hq
          · exact absurd (List.mem_singleton.mp hq).symm e
  rintro σ' H5 ⟨y11, y12, ρ, rfl, k5, hD5, lρ, nd, al⟩
  rw [List.length_map] at lρ al
  rw [List.take_length] at al
  rw [outer_len] at lρ
  -- both[a + ..] = names[0]
  have st5 : Drw H5 S n o p l names a most := ⟨k5 _ _ (by simp [ne_of_none st3.dict nD3]) st4.dict, k5 _ _ (by simp [Dn3]) st4.hn, k5 _ _ (by simp [Do3]) st4.ho, st4.pool.kp (by simp [Dp3]) k5, st.ok, st.nd, st.n0, st.n4, st.a0, st.a9, st.np, st.op⟩
  have g0 : names[0]? = some names[0] := List.getElem?_eq_getElem n0
  refine ⟨_, rfl, n, _, 0, .str names[0], rfl, rfl, SqL.of st5.hn, atI_at (j := 0) rfl (by rw [List.getElem?_map, g0]; rfl), _, rfl, _, rfl, _, rfl, p, 4, rfl, st5.pool, by decide, by decide, fun d H6 d0 d1 k6 p6 => ?_⟩
  have hD36 := k6 D3 _ (by simp [Dp3.symm]) hD5
  refine ⟨_, _, rfl, rfl, D3, _, rfl, DPut.k (k := .inl (a + d)) hD36 (by rw [Ren.kv_len]; exact sz_lt (by omega)), ?_⟩
  have e7 : putK ρ.kv (.inl (a + d)) (.str names[0]) = (ρ.put (.inl (a + d)) (.inr names[0])).kv := Ren.kv_put ρ _ (.inr names[0])
  have hb : ∀ r, TargetIn names a r → (ρ.put (.inl (a + d)) (.inr names[0])).to r = ρ2.to (ρ1.to r) := by
    intro r hr
    unfold Ren.to
    rw [Ren.look_put, if_neg, al r (mem_outer.mpr hr)]
    · rfl
    · rintro rfl
      rcases hr with ⟨x, _, e⟩ | ⟨i, e, _, h2⟩
      · cases e
      · cases e; omega
  have nd' := Ren.put_nodup (.inl (a + d)) (.inr names[0]) nd
  rw [e7]
  generalize ρ.put (.inl (a + d)) (.inr names[0]) = τ at hb nd' ⊢
  have k36 : Kp [p] H3 (upd H6 D3 (.dK τ.kv)) := by
    refine Kp.hide (D := D3) (Kp.refl H3) ?_ nD3
    exact (((Kp.of s4).trans (k5.mono (by simp))).trans (k6.mono (by simp))).trans (Kp.wr (.head _))
  have pz : Pool (upd H6 D3 (.dK τ.kv)) p := p6.kp (S := [D3]) (by simp [Dp3]) (Kp.wr (.head _))
  have hz3 : upd H6 D3 (.dK τ.kv) D3 = some (.dK τ.kv) := upd_same
  have hz1 := k36 D1 _ (by simp [D1p]) hD1'
  have hz2 := k36 D2 _ (by simp [D2p]) hD2
  have k0z := (k1.trans k13).trans k36
  have htz := Dp.kp k0z st.pool.lsts _ _ t.tu ht
  generalize upd H6 D3 (.dK τ.kv) = Hz at k36 pz hz3 hz1 hz2 k0z htz ⊢
  have im1 : ∀ r, TargetIn names a r → TargetIn names b (ρ1.to r) := fun r hr => ok1.image hr
  have im2 : ∀ r, TargetIn names b r → TargetIn names c (ρ2.to r) := fun r hr => ok2.image hr
  have im3 : ∀ r, TargetIn names a r → TargetIn names c (τ.to r) := fun r hr => by rw [hb r hr]; exact im2 _ (im1 r hr)
  have t1 := tok.mv (ρ := ρ1) st.ok a0 b0 (by omega) (by omega) im1
  have t2 := t1.mv (ρ := ρ2) st.ok b0 c0 (by omega) (by omega) im2
  have e2 := two_hops (c := c) tok.refs im1 hb
  have f1 := free_mv (b := b) tok.refs im1
  have f2 := free_mv (b := c) tok.refs im3
  -- first, second
  refine ⟨_, rfl, _, rfl, _, rfl, _, rfl, v, t, a, b, D1, ρ1, rfl, htz, tok.ht, hz1, fun H7 u1 s7 hu1 => ?_⟩
  refine ⟨_, rfl, _, rfl, _, rfl, _, rfl, u1, _, b, c, D2, ρ2, rfl, hu1, t1.ht, s7 _ _ hz2, fun H8 u2 s8 hu2 => ?_⟩
  have s78 := s7.trans s8
  -- two moves
  refine ⟨_, rfl, _, rfl, _, rfl, _, rfl, _, rfl, v, u1, t, a, b, D1, ρ1, rfl, Dp.sm s78 _ _ htz, tok.ht, s78 _ _ hz1, ok1.nd, Dp.sm s8 _ _ hu1, t1.fine, tok.dep, tok.nodes, fun H9 s9 => ⟨true, rfl, iteF ?_⟩⟩
  refine ⟨_, rfl, _, rfl, _, rfl, _, rfl, _, rfl, u1, u2, _, b, c, D2, ρ2, rfl, Dp.sm (s8.trans s9) _ _ hu1, t1.ht, (s78.trans s9) _ _ hz2, ok2.nd, Dp.sm s9 _ _ hu2, t2.fine, t1.dep, t1.nodes, fun H10 s10 => ⟨true, rfl, iteF ?_⟩⟩
  have s710 := (s78.trans s9).trans s10
  have s810 := s9.trans s10
  -- moved in one
  refine ⟨_, rfl, _, rfl, _, rfl, _, rfl, D1, ρ1.kv, rfl, .inl (s710 _ _ hz1), fun H11 E1 s11 nE1 hE1 => ?_⟩
  refine ⟨v, t, a, b, E1, ρ1, rfl, Dp.sm (s710.trans s11) _ _ htz, tok.ht, hE1, fun H12 u3 s12' hu3 => ?_⟩
  have s712 := (s710.trans s11).trans s12'
  have s812 := (s810.trans s11).trans s12'
  refine ⟨_, rfl, _, rfl, _, rfl, _, rfl, u3, u2, _, b, c, D2, ρ2, rfl, hu3, t1.ht, s712 _ _ hz2, ok2.nd, Dp.sm s812 _ _ hu2, t2.fine, t1.dep, t1.nodes, fun H13 s13 => ⟨true, rfl, iteF ?_⟩⟩
  have s713 := s712.trans s13
  have s813 := s812.trans s13
  refine ⟨_, rfl, _, rfl, _, rfl, _, rfl, _, rfl, v, u2, t, a, c, D3, τ, rfl, Dp.sm s713 _ _ htz, tok.ht, s713 _ _ hz3, nd', ?_, ?_, tok.dep, tok.nodes, fun H14 s14 => ⟨true, rfl, iteF ?_⟩⟩
  · rw [← e2]; exact Dp.sm s813 _ _ hu2
  · rw [← e2]; exact t2.fine
  have s714 := s713.trans s14
  have s814 := s813.trans s14
  -- refs
  refine ⟨_, rfl, _, rfl, v, t, a, rfl, Dp.sm s714 _ _ htz, by have := tok.sz; omega, fun H15 f s15 nf hf => ?_⟩
  have s715 := s714.trans s15
  have s815 := s814.trans s15
  have fl : (t.free a).length ≤ 10000 := by
    have := free_len t a
    have := tok.sz
    omega
  refine ⟨_, rfl, _, rfl, _, rfl, v, t, a, f, rfl, Dp.sm s715 _ _ htz, tok.ht, tok.sz, hf, tok.free st.ok a0 (by omega) a, fun H16 s16 => ⟨true, rfl, iteF ?_⟩⟩
  have s716 := s715.trans s16
  have s816 := s815.trans s16
  refine ⟨_, rfl, _, rfl, _, rfl, _, rfl, f, D1, t.free a, ρ1, rfl, s16 _ _ hf, fl, s716 _ _ hz1, fun H17 F s17 nF hF => ?_⟩
  have s717 := s716.trans s17
  have s817 := s816.trans s17
  refine ⟨u1, _, b, F, rfl, Dp.sm (s8.trans s817) _ _ hu1, t1.ht, t1.sz, by rw [f1]; exact hF, t1.free st.ok b0 (by omega) b, fun H18 s18 => ⟨true, rfl, iteF ?_⟩⟩
  have s718 := s717.trans s18
  have s818 := s817.trans s18
  have hf18 := ((s16.trans s17).trans s18) _ _ hf
  refine ⟨_, rfl, _, rfl, _, rfl, _, rfl, f, D3, t.free a, τ, rfl, hf18, fl, s718 _ _ hz3, fun H19 G s19 nG hGG => ?_⟩
  have s719 := s718.trans s19
  have s819 := s818.trans s19
  refine ⟨u2, t.mv a c τ, c, G, rfl, by rw [← e2]; exact Dp.sm s819 _ _ hu2, by rw [← e2]; exact t2.ht, by rw [← e2]; exact t2.sz, by rw [f2]; exact hGG, by rw [← e2]; exact t2.free st.ok c0 (by omega) c, fun H20 s20 => ⟨true, rfl, iteT ?_⟩⟩
  have s720 := s719.trans s20
  have s820 := s819.trans s20
  refine ⟨_, rfl, _, rfl, _, rfl, _, rfl, _, rfl, v, u1, t, a, b, D1, ρ1, rfl, Dp.sm s720 _ _ htz, tok.ht, s720 _ _ hz1, ok1.nd, Dp.sm (s8.trans s820) _ _ hu1, t1.fine, tok.dep, tok.nodes, fun H21 s21 => ?_⟩
  exact q H21 (k0z.trans (Kp.of (s720.trans s21))) (pz.kp (S := []) (by simp) (Kp.of (s720.trans s21)))
end
end HA

/-! There and back. -/
namespace HA
open PySem PySem.Spec PyProof.Rows L2
theorem mv_self {a : Int} (t : Row) : t.mv a a [] = t := by
  refine Row.mv_id t fun r _ => ?_
  cases r with
  | inl i =>
    show (if i ≥ a then (Sum.inl (i + a - a) : Key) else Ren.to [] (.inl i)) = .inl i
    split
    · exact congrArg Sum.inl (by omega)
    · rfl
  | inr x => rfl
theorem not_mem_erase {α : Type} {z : α} : ∀ {l : List α} {k : Nat}, l.Nodup → l[k]? = some z → z ∉ l.eraseIdx k
  | [], _, _, h => by cases h
  | x :: l, 0, n, h => by
    cases h
    exact (List.nodup_cons.mp n).1
  | x :: l, k + 1, n, h => by
    have h' : l[k]? = some z := h
    rw [List.eraseIdx_cons_succ, List.mem_cons]
    rintro (e | e)
    · subst e
      exact (List.nodup_cons.mp n).1 (List.mem_of_getElem? h')
    · exact not_mem_erase (List.nodup_cons.mp n).2 h' e
theorem erase_map {α β : Type} (f : α → β) : ∀ (l : List α) (k : Nat), (l.map f).eraseIdx k = (l.eraseIdx k).map f
  | [], _ => rfl
  | _ :: _, 0 => rfl
  | x :: l, k + 1 => congrArg (f x :: ·) (erase_map f l k)
theorem erase_len {α : Type} : ∀ {l : List α} {k : Nat}, k < l.length → (l.eraseIdx k).length + 1 = l.length
  | [], _, h => by cases h
  | _ :: _, 0, _ => rfl
  | x :: l, k + 1, h => by
    have := erase_len (l := l) (k := k) (Nat.lt_of_succ_lt_succ h)
    rw [List.eraseIdx_cons_succ, List.length_cons, List.length_cons, this]
theorem erase_mem {α : Type} {z : α} : ∀ {l : List α} {k : Nat}, z ∈ l.eraseIdx k → z ∈ l
  | [], _, h => h
  | _ :: _, 0, h => .tail _ h
  | x :: l, k + 1, h => by
    rw [List.eraseIdx_cons_succ, List.mem_cons] at h
    rcases h with rfl | h
    · exact .head _
    · exact .tail _ (erase_mem h)
theorem erase_nodup {α : Type} : ∀ {l : List α} {k : Nat}, l.Nodup → (l.eraseIdx k).Nodup
  | [], _, h => h
  | _ :: _, 0, h => (List.nodup_cons.mp h).2
  | x :: l, k + 1, h => by
    have h' := List.nodup_cons.mp h
    rw [List.eraseIdx_cons_succ, List.nodup_cons]
    exact ⟨fun z => h'.1 (erase_mem z), erase_nodup h'.2⟩
/-- so far renamed there, and back -/
structure Back (done F0 fr : List Key) (th bk : Ren) : Prop where
  im : ∀ r z, th.look r = some z → z ∉ fr ∧ z ∈ F0 ∧ bk.look z = some r
  all : ∀ r ∈ done, (th.look r).isSome = true
  ndT : (th.map (·.1)).Nodup
  ndB : (bk.map (·.1)).Nodup
  frn : fr.Nodup
  sub : ∀ z ∈ fr, z ∈ F0
theorem Back.nil {F0 : List Key} (h : F0.Nodup) : Back [] F0 F0 [] [] := ⟨fun r z e => (by cases e), fun r h => (by cases h), List.nodup_nil, List.nodup_nil, h, fun z h => h⟩
theorem Back.step {done F0 fr : List Key} {th bk : Ren} {r z : Key} {k : Nat} (h : Back done F0 fr th bk) (hk : fr[k]? = some z) : Back (done ++ [r]) F0 (fr.eraseIdx k) (th.put r z) (bk.put z r) := by
  have zm := List.mem_of_getElem? hk
  refine ⟨fun q y e => ?_, fun q hq => ?_, Ren.put_nodup _ _ h.ndT, Ren.put_nodup _ _ h.ndB, erase_nodup h.frn, fun y hy => h.sub y (erase_mem hy)⟩
  · rw [Ren.look_put] at e
    rw [Ren.look_put]
    by_cases c : r = q
    · rw [if_pos c] at e
      cases e
      subst c
      exact ⟨not_mem_erase h.frn hk, h.sub z zm, if_pos rfl⟩
    · rw [if_neg c] at e
      obtain ⟨h1, h2, h3⟩ := h.im q y e
      refine ⟨fun m => h1 (erase_mem m), h2, ?_⟩
      rw [if_neg]
      · exact h3
      · rintro rfl
        exact h1 zm
  · rw [Ren.look_put]
    by_cases c : r = q
    · rw [if_pos c]; rfl
    · rw [if_neg c]
      rcases List.mem_append.mp hq with hq | hq
      · exact h.all q hq
      · exact absurd (List.mem_singleton.mp hq).symm c
theorem back_id {names names' : List Str} {a b hi : Int} {th bk : Ren} {t : Row} (h : RefsOk names a hi t) (im : ∀ r, TargetIn names a r → TargetIn names' b (th.to r) ∧ bk.to (th.to r) = r) :
    (t.mv a b th).mv b a bk = t := by
  refine Eq.trans (Row.mv_mv (υ := []) t fun r hr => ?_) (mv_self t)
  rcases h r hr with ht | ⟨i, rfl, h1, h2⟩
  · rw [mv_outer th ht, mv_outer bk (im r ht).1, (im r ht).2, mv_outer [] ht]
    rfl
  · rw [mv_own th h1, mv_own bk (show b ≤ i + b - a by omega), mv_own [] h1]
    exact congrArg Sum.inl (by omega)
theorem back_fine {names names' : List Str} {a b hi : Int} {th : Ren} {t : Row} (h : TreeOk names a hi t) (ok : ∀ x ∈ names', NameOk x) (a0 : 0 ≤ a) (b0 : 0 ≤ b) (b1 : b ≤ 1000)
    (im : ∀ r, TargetIn names a r → TargetIn names' b (th.to r)) : fine (t.mv a b th).d = true := by
  refine Row.mv_fine t h.fine fun r hr => ?_
  rcases h.refs r hr with ht | ⟨i, rfl, h1, h2⟩
  · rw [mv_outer th ht]
    exact target_fine ok (im r ht) (by omega)
  · rw [mv_own th h1]
    show decide ((i + b - a).natAbs < 1000000000) = true
    have := h.hi
    exact decide_eq_true (by omega)
theorem Back.use {names ex : List Str} {a b : Int} {fr : List Key} {th bk : Ren} (h : Back (outerOf names a) (outerOf names b ++ ex.map Sum.inr) fr th bk) : ∀ r, TargetIn names a r → TargetIn (names ++ ex) b (th.to r) ∧ bk.to (th.to r) = r := by
  intro r hr
  have := h.all r (mem_outer.mpr hr)
  cases hl : th.look r with
  | none => rw [hl] at this; cases this
  | some z =>
    obtain ⟨_, h2, h3⟩ := h.im r z hl
    have e : th.to r = z := by unfold Ren.to; rw [hl]; rfl
    rw [e]
    refine ⟨?_, by unfold Ren.to; rw [h3]; rfl⟩
    rcases List.mem_append.mp h2 with m | m
    · rcases mem_outer.mp m with ⟨x, hx, e⟩ | m
      · exact .inl ⟨x, List.mem_append_left _ hx, e⟩
      · exact .inr m
    · obtain ⟨x, hx, rfl⟩ := List.mem_map.mp m
      exact .inl ⟨x, List.mem_append_right _ hx, rfl⟩
theorem free_nodup {names ex : List Str} {b : Int} (h : (names ++ ex).Nodup) : (outerOf names b ++ ex.map Sum.inr).Nodup := by
  obtain ⟨h1, h2, h3⟩ := List.nodup_append.mp h
  refine List.nodup_append.mpr ⟨outer_nodup b h1, ?_, fun x hx y hy => ?_⟩
  · rw [List.Nodup, List.pairwise_map]
    exact h2.imp fun hne e => hne (Sum.inr.inj e)
  · obtain ⟨z, hz, rfl⟩ := List.mem_map.mp hy
    rcases mem_outer.mp hx with ⟨x', hx', rfl⟩ | ⟨i, rfl, _⟩
    · intro e
      exact h3 x' hx' z hz (Sum.inr.inj e)
    · intro e
      cases e
end HA

/-! There and back: the walk. -/
namespace HA
open PySem PySem.Spec PyProof.Rows L2
section
variable {P : Program} {w : World} {K : PySem.W.Frag} {mg : Str → Option Value} {base : Heap}
def spBack (K : PySem.W.Frag) : Sp := fun vs H Q _ => ∃ (S n o p : Addr) (l v : V) (names : List Str) (a b hi most : Int) (t : Row), vs = [.ref S, v, .ref p, .int a, .int b] ∧
  Drw H S n o p l names a most ∧ 0 ≤ b ∧ b < 10 ∧ Dp K H v t.d ∧ TreeOk names a hi t ∧ hi ≤ 1000 ∧
  ∀ H', Kp [p] H H' → Pool H' p → Q (.bl true) H'
theorem ok_back (T : Tx K w mg) {k : Nat} : GnOk P w K mg base CX0 (k + 43) T.a__law_back T.d__law_back ["state", "tree", "pool", "a", "b"] (spBack K) := by
  have G__law_next := ok_next (P := P) (base := base) T (k := k + 41)
  have G__law_new_name := ok_new_name (P := P) (base := base) T (k := k + 40)
  have G__law_moved := (ok_lmoved (P := P) (base := base) T 40).mono (show 41 ≤ k + 42 by omega)
  have G_moved := (ok_moved (P := P) (base := base) T 40).mono (show 41 ≤ k + 42 by omega)
  have G__law_moves := ok_moves (P := P) (base := base) T (k := k)
  refine gn_ok T.F__law_back sc__law_back (fun vs H Q E h => ?_) (fun cdv A outer s H vs Q E hG hr h => ?_)
  · obtain ⟨S, n, o, p, l, v, names, a, b, hi, most, t, rfl, _⟩ := h
    rfl
  obtain ⟨S, n, o, p, l, v, names, a, b, hi, most, t, rfl, st, b0, b9, ht, tok, hhi, q⟩ := h
  have a0 := st.a0
  have a9 := st.a9
  have n0 := st.n0
  have n4 := st.n4
  refine ⟨_, (pss_cons (ps_set (i := 5) sc__law_back.nd rfl (Or.inl rfl) (pe_dget (hu_of hr) (pv 0) pe_str (fun _ _ => rfl)))
    (pss_cons (ps_set (i := 6) sc__law_back.nd rfl (Or.inl rfl) (pe_dget (hu_of hr) (pv 0) pe_str (fun _ _ => rfl)))
    (pss_cons (ps_set (i := 7) sc__law_back.nd rfl (Or.inl rfl) (pe_callTy call_listN (by rfl) T.z_list (by decide +kernel) (pa_cons (pv 5) pa_nil)))
    (pss_cons (ps_set (i := 8) sc__law_back.nd rfl (Or.inl rfl) (pe_op op_catL (pe_callTy call_listN (by rfl) T.z_list (by decide +kernel) (pa_cons (pv 5) pa_nil)) (pe_listRg rfl (by rfl) T.z_list (prg_1 (by rfl) T.z_range (pv 4)))))
    (pss_cons (ps_for PassesOwn.never rfl (pi_range1 (by rfl) T.z_range (pa_cons (pe_callB (call_max2 rfl) (by rfl) T.z_max (by decide +kernel) (pa_cons pe_int (pa_cons (pe_op op_sub (pe_callB call_len_seq (by rfl) T.z_len (by decide +kernel) (pa_cons (pv 6) pa_nil)) (pe_callB call_len_seq (by rfl) T.z_len (by decide +kernel) (pa_cons (pv 8) pa_nil))) pa_nil))) pa_nil)) (pg_name (i := 9) sc__law_back.nd rfl (Or.inl rfl))
      (pss_one (ps_expr (pe_bm PySem.F.plainAttrs_list PySem.F.slot_list_append PySem.F.type_list_append mt_append (pv 8) (pa_cons (pe_call (G__law_new_name) hr (by rfl) T.g__law_new_name T.k__law_new_name T.b__law_new_name .nil pass0 (pa_cons (pv 2) (pa_cons (pv 7) pa_nil))) pa_nil)))))
    (pss_cons (ps_set (i := 10) sc__law_back.nd rfl (Or.inl rfl) pe_dictN)
    (pss_cons (ps_set (i := 11) sc__law_back.nd rfl (Or.inl rfl) pe_dictN)
    (pss_cons (ps_for PassesOwn.never rfl (pi_list (pv 6)) (pg_name (i := 12) sc__law_back.nd rfl (Or.inl rfl))
      (pss_cons (ps_set (i := 13) sc__law_back.nd rfl (Or.inl rfl) (pe_bm PySem.F.plainAttrs_list PySem.F.slot_list_pop PySem.F.type_list_pop mt_popAt (pv 8) (pa_cons (pe_call (G__law_next) hr (by rfl) T.g__law_next T.k__law_next T.b__law_next .nil pass0 (pa_cons (pv 2) (pa_cons (pe_callB call_len_seq (by rfl) T.z_len (by decide +kernel) (pa_cons (pv 8) pa_nil)) pa_nil))) pa_nil)))
      (pss_cons (ps_dput (hu_of hr) (pv 10) (pv 12) (pv 13) rfl)
      (pss_one (ps_dput (hu_of hr) (pv 11) (pv 13) (pv 12) rfl)))))
    (pss_cons (ps_set (i := 14) sc__law_back.nd rfl (Or.inl rfl) (pe_call (G__law_moved) hr (by rfl) T.g__law_moved T.k__law_moved T.b__law_moved .nil pass0 (pa_cons (pv 1) (pa_cons (pv 3) (pa_cons (pv 4) (pa_cons (pv 10) pa_nil))))))
    (pss_cons (ps_if (PW.pt (pw_or (pt_not (pt_val (pe_callG (G__law_moves) hG hr (by rfl) T.g__law_moves T.k__law_moves T.b__law_moves .nil pass0 (pa_cons (pv 1) (pa_cons (pv 3) (pa_cons (pv 4) (pa_cons (pv 10) (pa_cons (pv 14) pa_nil)))))))) (pw_or1 (pt_not (pt_val (pe_callG (G__law_moves) hG hr (by rfl) T.g__law_moves T.k__law_moves T.b__law_moves .nil pass0 (pa_cons (pv 14) (pa_cons (pv 4) (pa_cons (pv 3) (pa_cons (pv 11) (pa_cons (pv 1) pa_nil)))))))))))
      (pss_one (ps_ret pe_bl))
      pss_nil)
    (pss_one (ps_ret (pe_and (pe_callG (G__law_moves) hG hr (by rfl) T.g__law_moves T.k__law_moves T.b__law_moves .nil pass0 (pa_cons (pe_call (G_moved) hr (by rfl) T.g_moved T.k_moved T.b_moved .nil pass0 (pa_cons (pv 1) (pa_cons (pv 3) (pa_cons (pv 4) (pa_cons (pe_callTy call_dictN (by rfl) T.z_dict (by decide +kernel) (pa_cons (pv 10) pa_nil)) pa_nil))))) (pa_cons (pv 4) (pa_cons (pv 3) (pa_cons (pv 11) (pa_cons (pv 1) pa_nil)))))) (pe_one (pe_callG (G__law_moves) hG hr (by rfl) T.g__law_moves T.k__law_moves T.b__law_moves .nil pass0 (pa_cons (pv 1) (pa_cons (pv 3) (pa_cons (pv 3) (pa_cons pe_dictN (pa_cons (pv 1) pa_nil)))))))))))))))))))), ?_⟩
  refine ⟨_, rfl, S, .ref n, rfl, st.gNames, _, rfl, S, .ref o, rfl, st.gOuter, ?_⟩
  -- taken, free
  refine ⟨_, rfl, n, _, rfl, .inl (SqL.of st.hn), fun H1 U s1 nU hU => ?_⟩
  have st1 := st.sm s1
  refine ⟨_, rfl, n, _, rfl, .inl (SqL.of st1.hn), fun H2 g1 s2 ng1 hg1 => ?_⟩
  refine ⟨_, rfl, b, rfl, RgOk.of_le (by omega) (by omega) (by omega) (by omega), fun g hg => ?_⟩
  have sg : Same H2 (upd H2 g (.lst (rgV 0 b))) := Same.new hg
  refine ⟨g1, g, _, _, rfl, rfl, sg _ _ hg1, upd_same, sz_le (by rw [List.length_map, rgV_length]; omega), fun H3 F s3 nF hF => ?_⟩
  rw [outer_kv names b0] at hF
  have s13 : Same H1 H3 := (s2.trans sg).trans s3
  have st3 := st1.sm s13
  have hU3 := s13 _ _ hU
  have oF : o ≠ F := ne_of_none ((s2.trans sg) _ _ st1.ho) nF
  have UF : U ≠ F := ne_of_none ((s2.trans sg) _ _ hU) nF
  have oU : o ≠ U := ne_of_none st.ho nU
  have nU' : n ≠ U := ne_of_none st.hn nU
  have nF' : n ≠ F := ne_of_none ((s2.trans sg) _ _ st1.hn) nF
  have pU : p ≠ U := by
    obtain ⟨x, y, z, e, _⟩ := st.pool
    exact ne_of_none e nU
  have pF : p ≠ F := by
    obtain ⟨x, y, z, e, _⟩ := st1.pool
    exact ne_of_none ((s2.trans sg) _ _ e) nF
  have op := st.op
  -- the names that are missing
  refine ⟨_, rfl, o, _, rfl, .inl (SqL.of st3.ho), _, rfl, F, _, rfl, .inl (SqL.of hF), _, _, rfl, rfl, 1, _, rfl, ?_⟩
  rw [List.length_map, List.length_map, outer_len, outer_len]
  have hm : ∃ m : Nat, (if ((names.length + a.toNat : Nat) : Int) - ((names.length + b.toNat : Nat) : Int) > 1 then ((names.length + a.toNat : Nat) : Int) - ((names.length + b.toNat : Nat) : Int) else 1) = (m : Int) ∧ 1 ≤ m ∧ m ≤ 10 ∧ a ≤ b + m := by
    split
    · exact ⟨(a - b).toNat, by omega, by omega, by omega, by omega⟩
    · exact ⟨1, rfl, by omega, by omega, by omega⟩
  obtain ⟨m, em, m1, m2, m3⟩ := hm
  refine ⟨_, rfl, ?_⟩
  rw [em]
  refine ⟨by omega, by omega, ?_⟩
  refine for_range (lo := 0) (n := m) (fun i σ' H' => ∃ (y9 : Option V) (ex : List Str), σ' = [some (.ref S), some v, some (.ref p), some (.int a), some (.int b), some (.ref n), some (.ref o), some (.ref U), some (.ref F), y9, none, none, none, none, none] ∧
      Kp [p, U, F] H3 H' ∧ Pool H' p ∧ H' U = some (.lst ((names ++ ex).map V.str)) ∧ H' F = some (.lst ((outerOf names b ++ ex.map Sum.inr).map kV)) ∧ ex.length = i ∧ (∀ x ∈ names ++ ex, NameOk x) ∧ (names ++ ex).Nodup)
    ⟨none, [], rfl, Kp.refl _, st3.pool, by rw [List.append_nil]; exact hU3, by rw [List.map_nil, List.append_nil]; exact hF, rfl, by rw [List.append_nil]; exact st.ok, by rw [List.append_nil]; exact st.nd⟩ ?_ ?_
  · rintro i σ' H' hi ⟨y9, ex, rfl, k', p', hU', hF', lex, ok, nd⟩
    refine ⟨_, rfl, .inl ⟨rfl, _, SqL.of hF'⟩, _, rfl, _, rfl, p, U, names ++ ex, rfl, p', hU', ok, by rw [List.length_append]; omega, fun x H4 hx hxn k4 p4 hU4 => ?_⟩
    have hF4 := k4 F _ (by simp [pF.symm, UF.symm]) hF'
    refine ⟨F, _, _, rfl, rfl, hF4, sz_lt (by rw [List.length_map, List.length_append, outer_len, List.length_map]; omega), ?_⟩
    refine ⟨_, ex ++ [x], rfl, (k'.trans (k4.mono (by simp))).trans (Kp.wr (by simp)), p4.kp (S := [F]) (by simp [pF]) (Kp.wr (.head _)), ?_, ?_, by rw [List.length_append, lex]; rfl, ?_, ?_⟩
    · rw [upd_ne UF, hU4, List.append_assoc]
    · rw [upd_same]
      refine congrArg (fun z => some (HO.lst z)) ?_
      rw [List.map_append, List.map_append, List.map_append, List.map_append, List.append_assoc]
      rfl
    · rw [← List.append_assoc]
      intro y hy
      rcases List.mem_append.mp hy with hy | hy
      · exact ok y hy
      · rw [List.mem_singleton.mp hy]; exact hx
    · rw [← List.append_assoc]
      refine List.nodup_append.mpr ⟨nd, by simp, fun y hy z hz => ?_⟩
      rw [List.mem_singleton.mp hz]
      rintro rfl
      exact hxn hy
  rintro σ' H4 ⟨y9, ex, rfl, k4, p4, hU4, hF4, lex, ok, nd⟩
  -- there, back
  refine fun H5 D1 s5 nD1 hD1 => ?_
  refine fun H6 D2 s6 nD2 hD2 => ?_
  have s46 := s5.trans s6
  have hF6 := s46 _ _ hF4
  have p6 := p4.kp (S := []) (by simp) (Kp.of s46)
  have D12 : D1 ≠ D2 := ne_of_none hD1 nD2
  have FD1 : F ≠ D1 := ne_of_none hF4 nD1
  have FD2 : F ≠ D2 := ne_of_none (s5 _ _ hF4) nD2
  have ho4 := k4 o _ (by simp [op, oU, oF]) st3.ho
  have oD1 : o ≠ D1 := ne_of_none ho4 nD1
  have oD2 : o ≠ D2 := ne_of_none (s5 _ _ ho4) nD2
  have ho6 := s46 _ _ ho4
  have pD1 : p ≠ D1 := by
    obtain ⟨x, y, z, e, _⟩ := p4
    exact ne_of_none e nD1
  have pD2 : p ≠ D2 := by
    obtain ⟨x, y, z, e, _⟩ := p4
    exact ne_of_none (s5 _ _ e) nD2
  refine ⟨_, rfl, o, rfl, ⟨_, SqL.of ho6⟩, ?_⟩
  refine for_list (xs := (outerOf names a).map kV) (fun i σ' H' => ∃ (y12 y13 : Option V) (fr : List Key) (th bk : Ren), σ' = [some (.ref S), some v, some (.ref p), some (.int a), some (.int b), some (.ref n), some (.ref o), some (.ref U), some (.ref F), y9, some (.ref D1), some (.ref D2), y12, y13, none] ∧
      Kp [p, F, D1, D2] H6 H' ∧ Pool H' p ∧ H' F = some (.lst (fr.map kV)) ∧ fr.length + i = names.length + b.toNat + m ∧ H' D1 = some (.dK th.kv) ∧ H' D2 = some (.dK bk.kv) ∧ th.length ≤ i ∧ bk.length ≤ i ∧
      Back ((outerOf names a).take i) (outerOf names b ++ ex.map Sum.inr) fr th bk)
    ⟨none, none, outerOf names b ++ ex.map Sum.inr, [], [], rfl, Kp.refl _, p6, hF6, by rw [List.length_append, outer_len, List.length_map, lex]; rfl, s6 _ _ hD1, hD2, Nat.le_refl _, Nat.le_refl _, Back.nil (free_nodup nd)⟩ ?_ ?_ ?_
  · rintro i σ' H' _ ⟨y12, y13, fr, th, bk, _, k', _⟩
    exact k'.seqL (by simp [op, oF, oD1, oD2]) (SqL.of ho6)
  · rintro i x σ' H' hi ⟨y12, y13, fr, th, bk, rfl, k', p', hF', lf, hT, hB, lt, lb, B⟩
    rw [List.getElem?_map] at hi
    cases hc : (outerOf names a)[i]? with
    | none => rw [hc] at hi; cases hi
    | some r =>
      rw [hc] at hi
      cases hi
      have ilt := (List.getElem?_eq_some_iff.mp hc).1
      rw [outer_len] at ilt
      have tk : (outerOf names a).take (i + 1) = (outerOf names a).take i ++ [r] := by rw [List.take_add_one, hc]; rfl
      refine ⟨_, rfl, .inl ⟨rfl, _, SqL.of hF'⟩, _, rfl, _, rfl, F, _, rfl, .inl (SqL.of hF'), p, _, rfl, p', by rw [List.length_map]; omega, by rw [List.length_map]; omega, fun d H7 d0 d1 k7 p7 => ?_⟩
      rw [List.length_map] at d1
      have hF7 := k7 F _ (by simp [pF.symm]) hF'
      have dl : d.toNat < fr.length := by omega
      have gz : fr[d.toNat]? = some fr[d.toNat] := List.getElem?_eq_getElem dl
      generalize fr[d.toNat] = z at gz
      refine ⟨F, _, d, d.toNat, kV z, rfl, rfl, hF7, by omega, by omega, seqIndex_of d0 (by rw [List.length_map]; exact d1), by rw [List.getElem?_map, gz]; rfl, ?_⟩
      have hT8 : upd H7 F (.lst ((fr.map kV).eraseIdx d.toNat)) D1 = some (.dK th.kv) := by
        rw [upd_ne FD1.symm]
        exact k7 D1 _ (by simp [pD1.symm]) hT
      have hB8 : upd H7 F (.lst ((fr.map kV).eraseIdx d.toNat)) D2 = some (.dK bk.kv) := by
        rw [upd_ne FD2.symm]
        exact k7 D2 _ (by simp [pD2.symm]) hB
      refine ⟨_, rfl, _, rfl, _, rfl, D1, _, rfl, DPut.k (k := r) hT8 (by rw [Ren.kv_len]; exact sz_lt (by omega)), ?_⟩
      refine ⟨_, rfl, _, rfl, _, rfl, D2, _, rfl, DPut.k (k := z) (by rw [upd_ne D12.symm]; exact hB8) (by rw [Ren.kv_len]; exact sz_lt (by omega)), ?_⟩
      refine ⟨_, _, fr.eraseIdx d.toNat, th.put r z, bk.put z r, rfl, ?_, ?_, ?_, ?_, ?_, ?_, ?_, ?_, ?_⟩
      · exact (((k'.trans (k7.mono (by simp))).trans (Kp.wr (by simp))).trans (Kp.wr (by simp))).trans (Kp.wr (by simp))
      · exact p7.kp (S := [F, D1, D2]) (by simp [pF, pD1, pD2]) (((Kp.wr (by simp)).trans (Kp.wr (by simp))).trans (Kp.wr (by simp)))
      · rw [upd_ne FD2, upd_ne FD1, upd_same, erase_map]
      · have := erase_len dl
        omega
      · rw [upd_ne D12, upd_same, Ren.kv_put]
      · rw [upd_same, Ren.kv_put]
      · have := Ren.put_len th r z; omega
      · have := Ren.put_len bk z r; omega
      · rw [tk]
        exact B.step gz
  rintro σ' H7 ⟨y12, y13, fr, th, bk, rfl, k7, p7, hF7, lf, hT, hB, lt, lb, B⟩
  rw [List.length_map, List.take_length] at B
  have im := B.use
  have e1 := back_id tok.refs im
  have ff := back_fine tok ok a0 b0 (by omega) fun r h => (im r h).1
  have U1 : D1 ≠ U := (ne_of_none hU4 nD1).symm
  have U2 : D2 ≠ U := (ne_of_none (s5 _ _ hU4) nD2).symm
  have s03 : Same H H3 := s1.trans s13
  have nF0 : H F = none := Kp.free (S := []) (Kp.of (s1.trans (s2.trans sg))) (by simp) nF
  have n10 : H D1 = none := Kp.free (S := [p, U, F]) ((Kp.of s03).trans k4) (by simp [pD1.symm, U1, FD1.symm]) nD1
  have n20 : H D2 = none := Kp.free (S := [p, U, F]) (((Kp.of s03).trans k4).trans (Kp.of s5)) (by simp [pD2.symm, U2, FD2.symm]) nD2
  have k0z : Kp [p] H H7 := by
    have big : Kp [D2, D1, F, U, p] H H7 := (((Kp.of s03).trans (k4.mono (by simp))).trans (Kp.of s46)).trans (k7.mono (by simp))
    exact Kp.hide (Kp.refl H) (Kp.hide (Kp.refl H) (Kp.hide (Kp.refl H) (Kp.hide (Kp.refl H) big n20) n10) nF0) nU
  have htz := Dp.kp k0z st.pool.lsts _ _ t.tu ht
  have h1 : (t.mv a b th).ht ≤ 40 := by rw [Row.mv_ht]; exact tok.ht
  have h2 : (t.mv a b th).d.depth ≤ 64 := by rw [Row.mv_depth]; exact tok.dep
  have h3 : nodes (t.mv a b th).d ≤ 8000 := by rw [Row.mv_nodes]; exact tok.nodes
  have h4 : fine ((t.mv a b th).mv b a bk).d = true := by rw [e1]; exact tok.fine
  refine ⟨_, rfl, _, rfl, _, rfl, _, rfl, v, t, a, b, D1, th, rfl, htz, tok.ht, hT, fun H8 u s8 hu => ?_⟩
  refine ⟨_, rfl, _, rfl, _, rfl, _, rfl, _, rfl, v, u, t, a, b, D1, th, rfl, Dp.sm s8 _ _ htz, tok.ht, s8 _ _ hT, B.ndT, hu, ff, tok.dep, tok.nodes, fun H9 s9 => ⟨true, rfl, iteF ?_⟩⟩
  have s79 := s8.trans s9
  refine ⟨_, rfl, _, rfl, _, rfl, _, rfl, _, rfl, u, v, _, b, a, D2, bk, rfl, Dp.sm s9 _ _ hu, h1, s79 _ _ hB, B.ndB, by rw [e1]; exact Dp.sm s79 _ _ htz, h4, h2, h3, fun H10 s10 => ⟨true, rfl, iteF ?_⟩⟩
  have s710 := s79.trans s10
  refine ⟨_, rfl, _, rfl, _, rfl, _, rfl, D1, th.kv, rfl, .inl (s710 _ _ hT), fun H11 E1 s11 nE1 hE1 => ?_⟩
  have s711 := s710.trans s11
  refine ⟨v, t, a, b, E1, th, rfl, Dp.sm s711 _ _ htz, tok.ht, hE1, fun H12 u3 s12 hu3 => ?_⟩
  have s712 := s711.trans s12
  refine ⟨_, rfl, _, rfl, _, rfl, _, rfl, u3, v, _, b, a, D2, bk, rfl, hu3, h1, s712 _ _ hB, B.ndB, by rw [e1]; exact Dp.sm s712 _ _ htz, h4, h2, h3, fun H13 s13 => ⟨true, rfl, iteT ?_⟩⟩
  have s713 := s712.trans s13
  refine ⟨_, rfl, _, rfl, _, rfl, fun H14 E2 s14 nE2 hE2 => ?_⟩
  have s714 := s713.trans s14
  refine ⟨_, rfl, v, v, t, a, a, E2, [], rfl, Dp.sm s714 _ _ htz, tok.ht, hE2, List.nodup_nil, by rw [mv_self]; exact Dp.sm s714 _ _ htz, by rw [mv_self]; exact tok.fine, tok.dep, tok.nodes, fun H15 s15 => ?_⟩
  exact q H15 (k0z.trans (Kp.of (s714.trans s15))) (p7.kp (S := []) (by simp) (Kp.of (s714.trans s15)))
end
end HA

/-! The law. -/
namespace HA
open PySem PySem.Spec PyProof.Rows L2
theorem merge_st (a b c d e : V) : mergeK [] (stKvs a b c d e) = stKvs a b c d e := by rfl
theorem Grown.tree {names : List Str} {a : Int} {m : Nat} {t : Row} (g : Grown (outerOf names a) a a m t) (hm : m ≤ 30) (h : a < 10) : TreeOk names a (a + m) t := by
  obtain ⟨h1, h2, h3, h4, h5, h6⟩ := g
  refine ⟨h1, by omega, by omega, by omega, by omega, fun r hr => ?_, by omega⟩
  rcases h6 r hr with z | z
  · exact .inl (mem_outer.mp z)
  · exact .inr z
section
variable {P : Program} {w : World} {K : PySem.W.Frag} {mg : Str → Option Value} {base : Heap}
def spLaw (K : PySem.W.Frag) : Sp := fun vs H Q _ => ∃ (a : Addr) (ns : List Int), vs = [.ref a] ∧ SqL K H a (ns.map V.int) ∧ ∀ H', Q (.bl true) H'
theorem ok_law (T : Tx K w mg) : GnOk P w K mg base CX0 44 T.a_law T.d_law ["script"] (spLaw K) := by
  have G__law_pool := ok_pool (P := P) (base := base) T (k := 41)
  have G__law_next := ok_next (P := P) (base := base) T (k := 42)
  have G__law_new_name := ok_new_name (P := P) (base := base) T (k := 41)
  have G__law_grow := (ok_grow (P := P) (base := base) T 31).mono (show 37 ≤ 43 by omega)
  have G__law_two_hops := ok_two_hops (P := P) (base := base) T (k := 0)
  have G__law_back := ok_back (P := P) (base := base) T (k := 0)
  refine gn_ok T.F_law sc_law (fun vs H Q E h => ?_) (fun cdv A outer s H vs Q E hG hr h => ?_)
  · obtain ⟨a, ns, rfl, _⟩ := h
    rfl
  obtain ⟨sa, ns, rfl, hs, q⟩ := h
  refine ⟨_, (pss_cons (ps_set (i := 1) sc_law.nd rfl (Or.inl rfl) (pe_call (G__law_pool) hr (by rfl) T.g__law_pool T.k__law_pool T.b__law_pool .nil pass0 (pa_cons (pv 0) (pa_cons pe_int pa_nil))))
    (pss_cons (ps_set (i := 2) sc_law.nd rfl (Or.inl rfl) (pe_lstN pa_nil))
    (pss_cons (ps_for PassesOwn.never rfl (pi_range1 (by rfl) T.z_range (pa_cons (pe_op op_add pe_int (pe_call (G__law_next) hr (by rfl) T.g__law_next T.k__law_next T.b__law_next .nil pass0 (pa_cons (pv 1) (pa_cons pe_int pa_nil)))) pa_nil)) (pg_name (i := 3) sc_law.nd rfl (Or.inl rfl))
      (pss_one (ps_expr (pe_call (G__law_new_name) hr (by rfl) T.g__law_new_name T.k__law_new_name T.b__law_new_name .nil pass0 (pa_cons (pv 1) (pa_cons (pv 2) pa_nil))))))
    (pss_cons (ps_set (i := 4) sc_law.nd rfl (Or.inl rfl) (pe_call (G__law_next) hr (by rfl) T.g__law_next T.k__law_next T.b__law_next .nil pass0 (pa_cons (pv 1) (pa_cons pe_int pa_nil))))
    (pss_cons (ps_set (i := 5) sc_law.nd rfl (Or.inl rfl) (pe_op op_add pe_int (pe_call (G__law_next) hr (by rfl) T.g__law_next T.k__law_next T.b__law_next .nil pass0 (pa_cons (pv 1) (pa_cons pe_int pa_nil)))))
    (C8.pss_cut (ps_if (pt_cmpR op_eq (pe_call (G__law_next) hr (by rfl) T.g__law_next T.k__law_next T.b__law_next .nil pass0 (pa_cons (pv 1) (pa_cons pe_int pa_nil))) pe_int (nomark _))
      (pss_one (ps_set (i := 5) sc_law.nd rfl (Or.inl rfl) pe_int))
      pss_nil)
    (pss_cons (ps_set (i := 6) sc_law.nd rfl (Or.inl rfl) (pe_disp (pps_cons pe_str (pv 1) (pps_cons pe_str (pv 2) (pps_cons pe_str (pv 4) (pps_cons pe_str (pe_op op_catL (pv 2) (pe_listRg rfl (by rfl) T.z_list (prg_1 (by rfl) T.z_range (pv 4)))) (pps_cons pe_str (pv 5) pps_nil))))) (by rfl) (by rfl) (fun z => by cases z) (by decide)))
    (pss_cons (ps_set (i := 7) sc_law.nd rfl (Or.inl rfl) (pe_call (G__law_grow) hr (by rfl) T.g__law_grow T.k__law_grow T.b__law_grow .nil pass0 (pa_cons (pv 6) (pa_cons (pv 4) (pa_cons pe_int (pa_cons (pv 5) pa_nil))))))
    (pss_cons (ps_set (i := 8) sc_law.nd rfl (Or.inl rfl) (pe_call (G__law_pool) hr (by rfl) T.g__law_pool T.k__law_pool T.b__law_pool .nil pass0 (pa_cons (pv 0) (pa_cons pe_int pa_nil))))
    (pss_cons (ps_asg (pe_op op_add (pe_ix ix_list (pv 8) pe_int (fun _ _ => rfl)) (pe_op op_mul pe_int (pe_ix ix_list (pv 1) pe_int (fun _ _ => rfl)))) (pg_sub (pv 8) pe_int set_list))
    (pss_cons (ps_set (i := 9) sc_law.nd rfl (Or.inl rfl) (pe_tupN (pa_cons (pv 4) (pa_cons (pe_call (G__law_next) hr (by rfl) T.g__law_next T.k__law_next T.b__law_next .nil pass0 (pa_cons (pv 8) (pa_cons pe_int pa_nil))) (pa_cons (pe_call (G__law_next) hr (by rfl) T.g__law_next T.k__law_next T.b__law_next .nil pass0 (pa_cons (pv 8) (pa_cons pe_int pa_nil))) pa_nil)))))
    (pss_one (ps_ret (pe_and (pe_callG (G__law_two_hops) hG hr (by rfl) T.g__law_two_hops T.k__law_two_hops T.b__law_two_hops .nil pass0 (pa_cons (pv 6) (pa_cons (pv 7) (pa_cons (pv 8) (pa_cons (pv 9) pa_nil))))) (pe_one (pe_callG (G__law_back) hG hr (by rfl) T.g__law_back T.k__law_back T.b__law_back .nil pass0 (pa_cons (pv 6) (pa_cons (pv 7) (pa_cons (pv 8) (pa_cons (pv 4) (pa_cons (pe_ix ix_tup (pv 9) pe_int (fun _ _ => rfl)) pa_nil))))))))))))))))))))), ?_⟩
  -- the pool, the names
  refine ⟨_, rfl, sa, ns, 0, rfl, hs, fun H1 p s1 np hp => ?_⟩
  refine ⟨Nat.zero_le _, fun H2 N s2 nN hN => ?_⟩
  have p2 := hp.kp (S := []) (by simp) (Kp.of s2)
  have Np : N ≠ p := by
    obtain ⟨x, y, z, e, _⟩ := hp
    exact (ne_of_none e nN).symm
  have nN0 : H N = none := Kp.free (S := []) (Kp.of s1) (by simp) nN
  refine ⟨_, rfl, p, 4, rfl, p2, by decide, by decide, fun d H3 d0 d1 k3 p3 => ⟨_, _, rfl, rfl, _, rfl, by omega, by omega, ?_⟩⟩
  have hN3 := k3 N _ (by simp [Np]) hN
  refine for_range (lo := 0) (n := (1 + d).toNat) (fun i σ' H' => ∃ (y3 : Option V) (nm : List Str), σ' = [some (.ref sa), some (.ref p), some (.ref N), y3, none, none, none, none, none, none] ∧ Kp [p, N] H2 H' ∧ Pool H' p ∧
      H' N = some (.lst (nm.map V.str)) ∧ nm.length = i ∧ (∀ x ∈ nm, NameOk x) ∧ nm.Nodup) ⟨none, [], rfl, k3.mono (by simp), p3, hN3, rfl, fun x h => (by cases h), List.nodup_nil⟩ ?_ ?_
  · rintro i σ' H' hi ⟨y3, nm, rfl, k', p', hN', ln, ok, nd⟩
    refine ⟨_, rfl, _, rfl, p, N, nm, rfl, p', hN', ok, by omega, fun x H4 hx hxn k4 p4 hN4 => ?_⟩
    refine ⟨_, nm ++ [x], rfl, k'.trans k4, p4, hN4, by rw [List.length_append, ln]; rfl, ?_, ?_⟩
    · intro y hy
      rcases List.mem_append.mp hy with hy | hy
      · exact ok y hy
      · rw [List.mem_singleton.mp hy]; exact hx
    · refine List.nodup_append.mpr ⟨nd, by simp, fun y hy z hz => ?_⟩
      rw [List.mem_singleton.mp hz]
      rintro rfl
      exact hxn hy
  rintro σ' H4 ⟨y3, nm, rfl, k4, p4, hN4, ln, ok, nd⟩
  -- a, many
  refine ⟨_, rfl, p, 10, rfl, p4, by decide, by decide, fun a H5 a0 a1 k5 p5 => ?_⟩
  refine ⟨_, rfl, p, 12, rfl, p5, by decide, by decide, fun e H6 e0 e1 k6 p6 => ⟨_, _, rfl, rfl, ?_⟩⟩
  have k46 := k5.trans k6
  refine ⟨fun σ' H' => ∃ m : Nat, σ' = [some (.ref sa), some (.ref p), some (.ref N), y3, some (.int a), some (.int (m : Int)), none, none, none, none] ∧ Kp [p] H4 H' ∧ Pool H' p ∧ 1 ≤ m ∧ m ≤ 30, ?_, ?_⟩
  · refine ⟨_, rfl, p, 8, rfl, p6, by decide, by decide, fun f H7 f0 f1 k7 p7 => ⟨rfl, _, rfl, iteB (fun _ => ?_) (fun _ => ?_)⟩⟩
    · exact ⟨30, rfl, k46.trans k7, p7, by decide, by decide⟩
    · exact ⟨(1 + e).toNat, by rw [Int.toNat_of_nonneg (by omega)]; rfl, k46.trans k7, p7, by omega, by omega⟩
  rintro σ' H7 ⟨m, rfl, k47, p7, m1, m2⟩
  have n0 : 0 < nm.length := by omega
  have n4 : nm.length ≤ 4 := by omega
  have hN7 := k47 N _ (by simp [Np]) hN4
  -- state
  refine fun S hS => ?_
  have sS : Same H7 (upd H7 S (.dK [])) := Same.new hS
  have hN8 := sS _ _ hN7
  have p8 := p7.kp (S := []) (by simp) (Kp.of sS)
  refine ⟨_, rfl, _, rfl, _, rfl, _, rfl, _, rfl, a, rfl, RgOk.of_le (by omega) (by omega) (by omega) (by omega), fun g hg => ?_⟩
  have sg : Same (upd H7 S (.dK [])) (upd (upd H7 S (.dK [])) g (.lst (rgV 0 a))) := Same.new hg
  refine ⟨N, g, _, _, rfl, rfl, sg _ _ hN8, upd_same, sz_le (by rw [List.length_map, rgV_length]; omega), fun H9 o s9 no ho => ?_⟩
  rw [outer_kv nm a0] at ho
  have s79 := sg.trans s9
  have p9 := p8.kp (S := []) (by simp) (Kp.of s79)
  have hN9 := s79 _ _ hN8
  have hS9 : H9 S = some (.dK []) := s79 _ _ upd_same
  have oS : o ≠ S := (ne_of_none (sg _ _ (upd_same (H := H7) (a := S) (o := .dK []))) no).symm
  have op : o ≠ p := by
    obtain ⟨x, y, z, e, _⟩ := p8
    exact (ne_of_none (sg _ _ e) no).symm
  have pS : p ≠ S := by
    obtain ⟨x, y, z, e, _⟩ := p7
    exact ne_of_none e hS
  have NS : N ≠ S := ne_of_none hN7 hS
  refine ⟨_, rfl, hS9, stKvs (.ref p) (.ref N) (.int a) (.ref o) (.int (m : Int)), rfl, (by show 5 ≤ 15; decide), ?_⟩
  rw [merge_st]
  have s7X : Same H7 (upd H9 S (.dK (stKvs (.ref p) (.ref N) (.int a) (.ref o) (.int (m : Int))))) := Same.mut (sS.trans s79) hS
  have kX : Kp [S] H9 (upd H9 S (.dK (stKvs (.ref p) (.ref N) (.int a) (.ref o) (.int (m : Int))))) := Kp.wr (.head _)
  have hSX : upd H9 S (.dK (stKvs (.ref p) (.ref N) (.int a) (.ref o) (.int (m : Int)))) S = some (.dK (stKvs (.ref p) (.ref N) (.int a) (.ref o) (.int (m : Int)))) := upd_same
  have hoX := kX o _ (by simp [oS]) ho
  have hNX := kX N _ (by simp [NS]) hN9
  have pX := p9.kp (S := [S]) (by simp [pS]) kX
  generalize upd H9 S (.dK (stKvs (.ref p) (.ref N) (.int a) (.ref o) (.int (m : Int)))) = HX at s7X kX hSX hoX hNX pX ⊢
  have st : Stt HX S p N o nm (outerOf nm a) a m := ⟨hSX, hNX, hoX, pX, ok, n0, by rw [outer_len]; omega, by omega, by rw [outer_len]; omega, fun r hr => target_fine ok (mem_outer.mp hr) (by omega), a0, Np, op⟩
  -- tree
  refine ⟨_, rfl, _, rfl, _, rfl, S, p, N, o, nm, outerOf nm a, a, m, a, 400, m, rfl, by omega, st, Int.le_refl _, by omega, by decide, by decide, fun v t H11 ht gr k11 p11 => ?_⟩
  have tok := gr.tree m2 (by omega)
  have st11 := st.kp k11 p11
  have sH7 : Same H H7 := by
    have k27 : Kp [p, N] H2 H7 := k4.trans (k47.mono (by simp))
    have k17 : Kp [N, p] H H7 := (Kp.of (s1.trans s2)).trans (k27.mono (by simp))
    exact (Kp.hide (S := []) (Kp.refl H) (Kp.hide (S := [p]) (Kp.refl H) k17 nN0) np).same
  have s011 : Same H H11 := by
    have k : Kp [p] H H11 := (Kp.of (sH7.trans s7X)).trans k11
    exact (Kp.hide (S := []) (Kp.refl H) k np).same
  -- other
  refine ⟨_, rfl, sa, ns, 1, rfl, Same.seq s011 hs, fun H12 O s12 nO hO => ?_⟩
  have ht12 := Dp.sm s12 _ _ ht
  have p12 := p11.kp (S := []) (by simp) (Kp.of s12)
  have pO : p ≠ O := by
    obtain ⟨x, y, z, e, _⟩ := p11
    exact ne_of_none e nO
  have NO : N ≠ O := ne_of_none st11.hn nO
  have oO : o ≠ O := ne_of_none st11.ho nO
  have SO : S ≠ O := ne_of_none st11.dict nO
  have st12 := st11.kp (Kp.of s12) p12
  obtain ⟨x, y, z, hO', x0, y0, z0⟩ := hO
  obtain ⟨u1, u2, u3, hp', u1p, u2p, u3p⟩ := p12
  refine ⟨_, rfl, O, _, 2, .int z, rfl, rfl, SqL.of hO', atI_at (j := 2) rfl rfl, _, rfl, p, _, 2, .int u3, rfl, rfl, SqL.of hp', atI_at (j := 2) rfl rfl, ?_⟩
  refine ⟨_, _, rfl, rfl, .inl ⟨by decide, by decide⟩, _, _, rfl, rfl, _, rfl, O, _, 2, 2, rfl, rfl, hO', rfl, ?_⟩
  have kO : Kp [O] H12 (upd H12 O (.lst ([V.int x, V.int y, V.int z].set 2 (.int (z + 5 * u3))))) := Kp.wr (.head _)
  have pO13 : Pool (upd H12 O (.lst ([V.int x, V.int y, V.int z].set 2 (.int (z + 5 * u3))))) O := ⟨x, y, z + 5 * u3, upd_same, x0, y0, by omega⟩
  generalize upd H12 O (.lst ([V.int x, V.int y, V.int z].set 2 (.int (z + 5 * u3)))) = H13 at kO pO13 ⊢
  -- levels
  refine ⟨_, rfl, _, rfl, O, 10, rfl, pO13, by decide, by decide, fun b H14 b0 b1 k14 p14 => ?_⟩
  refine ⟨_, rfl, O, 10, rfl, p14, by decide, by decide, fun c H15 c0 c1 k15 p15 => ⟨(by show 3 ≤ 1000; decide), fun H16 L s16 nL hL => ?_⟩⟩
  have k16 : Kp [O] H12 H16 := ((kO.trans k14).trans k15).trans (Kp.of s16)
  have s1116 : Same H11 H16 := (Kp.hide (S := []) (Kp.refl H11) ((Kp.of s12).trans k16) nO).same
  have p16 := p15.kp (S := []) (by simp) (Kp.of s16)
  have st16 : Drw H16 S N o O (.ref p) nm a m := ⟨k16 _ _ (by simp [SO]) st12.dict, k16 _ _ (by simp [NO]) st12.hn, k16 _ _ (by simp [oO]) st12.ho, p16, ok, nd, n0, n4, a0, a1, NO, oO⟩
  have ht16 := Dp.sm s1116 _ _ ht
  refine ⟨_, rfl, _, rfl, _, rfl, _, rfl, S, N, o, O, L, .ref p, v, nm, a, b, c, a + m, m, t, rfl, st16, SqT.of hL, b0, b1, c0, c1, ht16, tok, by omega, fun H17 k17 p17 => ⟨true, rfl, iteT ?_⟩⟩
  refine ⟨_, rfl, _, rfl, _, rfl, _, rfl, _, rfl, L, _, 2, .int c, rfl, rfl, k17.seqT p16.lsts (SqT.of hL), atI_at (j := 2) rfl rfl, ?_⟩
  refine ⟨S, N, o, O, .ref p, v, nm, a, c, a + m, m, t, rfl, st16.kp k17 p17, c0, c1, Dp.kp k17 p16.lsts _ _ t.tu ht16, tok, by omega, fun H18 _ _ => q H18⟩
end
end HA

/-! A law's end, where the law's def is walked with no repr under way. -/
namespace HA
open PySem PySem.Spec PyProof.Rows L2
/-- the surroundings of the law's call over a heap of which at most the script is tracked -/
theorem env_start {P : Program} {w : World} {K : PySem.W.Frag} {mg m2 : Str → Option Value} {s1 : Shared} {H : Hp} {a : Addr} {c : Array Value}
    (kin : K.In s1.heap) (nsm : s1.heap.Ns mainGlobals mg) (nsb : s1.heap.Ns builtinsNs m2)
    (boot : ∀ y : Str, y ≠ "__name__" → m2 y = bootBuiltins y) (nol : s1.heap.NoLimit) (gens : s1.gens = #[])
    (at_ : s1.heap.get? a = some { cls := .type "list", data := .seq c })
    (ok : HOk P w H s1.heap) (one : ∀ b, H b ≠ none → b = a) (away : H a ≠ none → K.lookup a = none) :
    K.In (hidT s1.heap H) ∧ (hidT s1.heap H).Ns mainGlobals mg ∧ Env0 P w K mg (hidT s1.heap H) callerA [] s1 H := by
  have none_dict : ∀ {b : Addr} {o : Obj} {es : Array DictEntry} {ep : Nat}, s1.heap.get? b = some o → o.data = .dict es ep → H b = none := by
    intro b o es ep e d
    cases hb : H b with
    | none => rfl
    | some u =>
      have z : b = a := one b (by rw [hb]; intro q; cases q)
      subst z
      rw [at_] at e
      cases e
      exact absurd (show Data.seq c _ = Data.dict es ep from d) (by intro q; cases q)
  have under : ∀ {b : Addr} {m : Str → Option Value}, s1.heap.Ns b m → (hidT s1.heap H).Ns b m := by
    rintro b m ⟨o, es, ep, e, d, r⟩
    exact ⟨o, es, ep, hidT_get e (none_dict e d), d, r⟩
  have kin2 : K.In (hidT s1.heap H) := by
    intro b o e
    refine hidT_get (kin b o e) ?_
    cases hb : H b with
    | none => rfl
    | some u =>
      have z : b = a := one b (by rw [hb]; intro q; cases q)
      subst z
      rw [away (by rw [hb]; intro q; cases q)] at e
      cases e
  obtain ⟨mc, l1, l2⟩ := nol
  exact ⟨kin2, under nsm, ⟨rfl, ⟨kin2, under nsm, ⟨m2, under nsb, boot⟩, ⟨mc, under l1, l2⟩⟩, fun b o e => of_hidT e, Nat.le_of_eq (hidT_size _ _), trivial,
    fun b hb => (by cases hb), ok, .of_eq gens⟩⟩
theorem law_callG {P : Program} {w : World} {K : PySem.W.Frag} {mg m2 : Str → Option Value} {k : Nat} {fa a : Addr} {fd : FuncData} {x : Str} {sp : Sp} {s1 : Shared} {us : List Value} {ns : List Int}
    (kin : K.In s1.heap) (nsm : s1.heap.Ns mainGlobals mg) (nsb : s1.heap.Ns builtinsNs m2)
    (boot : ∀ y : Str, y ≠ "__name__" → m2 y = bootBuiltins y) (nol : s1.heap.NoLimit) (gens : s1.gens = #[])
    (at_ : s1.heap.get? a = some { cls := .type "list", data := .seq us.toArray }) (nums : IntsAre us ns) (long : ns.length ≤ sizeLine) (room : Room k callerA)
    (F : ∀ base : Heap, K.In base → base.Ns mainGlobals mg → GnOk P w K mg base CX0 k fa fd [x] sp)
    (bind : ∀ (s : Shared) (u : Value), BindsTo s fd ⟨[u], []⟩ [(x, u)])
    (asked : ∀ H : Hp, SqL K H a (ns.map V.int) → sp [.ref a] H (fun v _ => v = .bl true) fun _ _ _ => False) :
    codeAny (model P w) callerA (.call (.ref fa) ⟨[.ref a], []⟩)
      (fun r s2 => r = .ok (.ret (.bool true)) ∧ OldK s1.heap s2.heap ∧ s2.os = s1.os ∧ AllBare s2.gens) s1 := by
  have rel := vals_ints nums
  have len := nums.length
  have go : ∀ H : Hp, Only H → SqL K H a (ns.map V.int) → HOk P w H s1.heap → (∀ b, H b ≠ none → b = a) → (H a ≠ none → K.lookup a = none) →
      codeAny (model P w) callerA (.call (.ref fa) ⟨[.ref a], []⟩)
        (fun r s2 => r = .ok (.ret (.bool true)) ∧ OldK s1.heap s2.heap ∧ s2.os = s1.os ∧ AllBare s2.gens) s1 := by
    intro H only seq ok one away
    obtain ⟨k1, n1, env⟩ := env_start kin nsm nsb boot nol gens at_ ok one away
    refine codeAny_mono ((F _ k1 n1).does callerA [] s1 H ⟨[.ref a], []⟩ [.ref a] [.ref a] _ _ rfl room env (bind s1 (.ref a)) (.cons rfl .nil) (asked H seq)) ?_
    intro r s2 h
    match r, h with
    | .error e, h => exact (show False from h).elim
    | .ok .next, h => exact (show False from h).elim
    | .ok .brk, h => exact (show False from h).elim
    | .ok .cont, h => exact (show False from h).elim
    | .ok (.ret u), h =>
      obtain ⟨v, H2, same, bare, un, ok2, r2, e⟩ := h
      have e' : v = .bl true := e
      subst e'
      obtain rfl : u = Value.bool true := r2
      refine ⟨rfl, OldK.of_keep ?_, same, bare⟩
      intro b o e1
      cases hb : H b with
      | none => exact un.keep b o e1 hb (fun z => absurd (show b ∈ ([] : List Addr) from z) List.not_mem_nil) (by simp)
      | some y =>
        rcases only b with z | ⟨q, xs, z⟩
        · rw [hb] at z
          cases z
        · obtain ⟨f1, _⟩ := ok b _ z
          obtain ⟨f2, _⟩ := ok2 b _ (un.frzs b q _ z)
          rw [e1] at f1
          cases f1
          exact f2
  cases hk : K.lookup a with
  | some o =>
    have e := kin a o hk
    rw [at_] at e
    cases e
    exact go (fun _ => none) (fun _ => .inl rfl)
      (.inr ⟨_, us.toArray, _, hk, rfl, rfl, rfl, by rw [List.size_toArray, len]; exact long, by simpa using rel⟩)
      (fun b u z => absurd (show (none : Option HO) = some u from z) (by intro q; cases q)) (fun b z => absurd rfl z) fun z => absurd rfl z
  | none =>
    have here : ∀ {b : Addr} {u : HO}, (if b = a then some (HO.frz { cls := .type "list", data := .seq us.toArray } (.lst (ns.map V.int))) else none) = some u →
        b = a ∧ u = HO.frz { cls := .type "list", data := .seq us.toArray } (.lst (ns.map V.int)) := by
      intro b u e
      by_cases hb : b = a
      · rw [if_pos hb] at e
        cases e
        exact ⟨hb, rfl⟩
      · rw [if_neg hb] at e
        cases e
    refine go (fun b => if b = a then some (.frz { cls := .type "list", data := .seq us.toArray } (.lst (ns.map V.int))) else none) (fun b => ?_)
      (.inl (.inr ⟨_, if_pos rfl⟩)) (fun b u z => ?_) (fun b z => ?_) fun _ => hk
    · by_cases hb : b = a
      · exact .inr ⟨_, _, if_pos hb⟩
      · exact Or.inl (if_neg hb)
    · obtain ⟨rfl, rfl⟩ := here z
      exact ⟨at_, by rw [List.length_map]; exact long, us, _, rel, at_⟩
    · by_cases hb : b = a
      · exact hb
      · exact (z (if_neg hb)).elim
theorem walk_ofG {l : PySem.W.OpenLaw} {n k : Nat} {q : Program} {loose : List Str} {XP : (Str → Option Value) → Heap → Prop} {YP : World → Heap → Prop} {d : DefRec} {K : Params → PySem.W.Frag} {sp : PySem.W.Frag → Sp} {x : Str}
    (most : l.most = some n) (small : n ≤ sizeLine) (plain : d.params.defaults = []) (room : Room k callerA)
    (written : ∀ (w : World) (h : Heap), YP w h → (K w.params).In h)
    (F : ∀ (w : World) (mg : Str → Option Value) (fa : Addr) (h : Heap), (K w.params).In h → h.Ns mainGlobals mg → mg d.name = some (.ref fa) →
      ∃ fd : FuncData, (∀ (s : Shared) (u : Value), BindsTo s fd ⟨[u], []⟩ [(x, u)]) ∧
        ∀ base : Heap, (K w.params).In base → base.Ns mainGlobals mg → GnOk l.prog w (K w.params) mg base CX0 k fa fd [x] (sp (K w.params)))
    (asked : ∀ (K : PySem.W.Frag) (H : Hp) (a : Addr) (ns : List Int), SqL K H a (ns.map V.int) → sp K [.ref a] H (fun v _ => v = .bl true) fun _ _ _ => False) :
    PySem.W.WalkO q loose XP YP l.row.toRowW d [] (fun f vs => PySem.call f vs) := by
  refine Att.attach_call most plain ?_
  intro w s0 s1 mg m2 fa o pm cd doc a us ns G Y ho hd hcd hmg at_ nums short gens
  obtain ⟨fd, bind, ok⟩ := F w mg fa _ (written w _ Y) G.T.g hmg
  exact law_callG (written w _ Y) G.T.g G.T.b G.T.builtins G.T.nolimit gens at_ nums (Nat.le_trans short small) room ok bind fun H seq => asked _ H a ns seq
end HA

namespace HA
open PySem PySem.Spec PyProof.Rows L2
def all_tx {w : World} {K : PySem.W.Frag} {h : Heap} {mg : Str → Option Value} (X : K.In h) (G : h.Ns mainGlobals mg)
    {f0 : Addr} {oc0 kV0 dc0 pm0 cd0 ct0 : Value} {od0 an0 : Option Addr} {sl0 : Array (Option Value)}
    (a0 : PySem.W.nsIn K mainGlobals "premises" = some (some (.ref f0)))
    (l0 : K.lookup f0 = some ⟨oc0, od0, .func (PySem.W.fnOf "premises" "premises" (defArgs s_premises) (defBody s_premises) (defScope s_premises) .none kV0 dc0 pm0 an0 cd0 ct0), sl0⟩)
    (c0 : PySem.W.codeIn K cd0 "premises" = true) (k0 : PySem.W.keepIn K (.ref f0) = true)
    {f1 : Addr} {oc1 kV1 dc1 pm1 cd1 ct1 : Value} {od1 an1 : Option Addr} {sl1 : Array (Option Value)}
    (a1 : PySem.W.nsIn K mainGlobals "rebuilt" = some (some (.ref f1)))
    (l1 : K.lookup f1 = some ⟨oc1, od1, .func (PySem.W.fnOf "rebuilt" "rebuilt" (defArgs s_rebuilt) (defBody s_rebuilt) (defScope s_rebuilt) .none kV1 dc1 pm1 an1 cd1 ct1), sl1⟩)
    (c1 : PySem.W.codeIn K cd1 "rebuilt" = true) (k1 : PySem.W.keepIn K (.ref f1) = true)
    {f2 : Addr} {oc2 kV2 dc2 pm2 cd2 ct2 : Value} {od2 an2 : Option Addr} {sl2 : Array (Option Value)}
    (a2 : PySem.W.nsIn K mainGlobals "refers_to" = some (some (.ref f2)))
    (l2 : K.lookup f2 = some ⟨oc2, od2, .func (PySem.W.fnOf "refers_to" "refers_to" (defArgs s_refers_to) (defBody s_refers_to) (defScope s_refers_to) .none kV2 dc2 pm2 an2 cd2 ct2), sl2⟩)
    (c2 : PySem.W.codeIn K cd2 "refers_to" = true) (k2 : PySem.W.keepIn K (.ref f2) = true)
    {f3 : Addr} {oc3 kV3 dc3 pm3 cd3 ct3 : Value} {od3 an3 : Option Addr} {sl3 : Array (Option Value)}
    (a3 : PySem.W.nsIn K mainGlobals "moved_ref" = some (some (.ref f3)))
    (l3 : K.lookup f3 = some ⟨oc3, od3, .func (PySem.W.fnOf "moved_ref" "moved_ref" (defArgs s_moved_ref) (defBody s_moved_ref) (defScope s_moved_ref) .none kV3 dc3 pm3 an3 cd3 ct3), sl3⟩)
    (c3 : PySem.W.codeIn K cd3 "moved_ref" = true) (k3 : PySem.W.keepIn K (.ref f3) = true)
    {f4 : Addr} {oc4 kV4 dc4 pm4 cd4 ct4 : Value} {od4 an4 : Option Addr} {sl4 : Array (Option Value)}
    (a4 : PySem.W.nsIn K mainGlobals "moved" = some (some (.ref f4)))
    (l4 : K.lookup f4 = some ⟨oc4, od4, .func (PySem.W.fnOf "moved" "moved" (defArgs s_moved) (defBody s_moved) (defScope s_moved) .none kV4 dc4 pm4 an4 cd4 ct4), sl4⟩)
    (c4 : PySem.W.codeIn K cd4 "moved" = true) (k4 : PySem.W.keepIn K (.ref f4) = true)
    {f5 : Addr} {oc5 kV5 dc5 pm5 cd5 ct5 : Value} {od5 an5 : Option Addr} {sl5 : Array (Option Value)}
    (a5 : PySem.W.nsIn K mainGlobals "free_refs" = some (some (.ref f5)))
    (l5 : K.lookup f5 = some ⟨oc5, od5, .func (PySem.W.fnOf "free_refs" "free_refs" (defArgs s_free_refs) (defBody s_free_refs) (defScope s_free_refs) .none kV5 dc5 pm5 an5 cd5 ct5), sl5⟩)
    (c5 : PySem.W.codeIn K cd5 "free_refs" = true) (k5 : PySem.W.keepIn K (.ref f5) = true)
    {f6 : Addr} {oc6 kV6 dc6 pm6 cd6 ct6 : Value} {od6 an6 : Option Addr} {sl6 : Array (Option Value)}
    (a6 : PySem.W.nsIn K mainGlobals "_law_cell" = some (some (.ref f6)))
    (l6 : K.lookup f6 = some ⟨oc6, od6, .func (PySem.W.fnOf "_law_cell" "_law_cell" (defArgs s__law_cell) (defBody s__law_cell) (defScope s__law_cell) .none kV6 dc6 pm6 an6 cd6 ct6), sl6⟩)
    (c6 : PySem.W.codeIn K cd6 "_law_cell" = true) (k6 : PySem.W.keepIn K (.ref f6) = true)
    {f7 : Addr} {oc7 kV7 dc7 pm7 cd7 ct7 : Value} {od7 an7 : Option Addr} {sl7 : Array (Option Value)}
    (a7 : PySem.W.nsIn K mainGlobals "_law_pool" = some (some (.ref f7)))
    (l7 : K.lookup f7 = some ⟨oc7, od7, .func (PySem.W.fnOf "_law_pool" "_law_pool" (defArgs s__law_pool) (defBody s__law_pool) (defScope s__law_pool) .none kV7 dc7 pm7 an7 cd7 ct7), sl7⟩)
    (c7 : PySem.W.codeIn K cd7 "_law_pool" = true) (k7 : PySem.W.keepIn K (.ref f7) = true)
    {f8 : Addr} {oc8 kV8 dc8 pm8 cd8 ct8 : Value} {od8 an8 : Option Addr} {sl8 : Array (Option Value)}
    (a8 : PySem.W.nsIn K mainGlobals "_law_next" = some (some (.ref f8)))
    (l8 : K.lookup f8 = some ⟨oc8, od8, .func (PySem.W.fnOf "_law_next" "_law_next" (defArgs s__law_next) (defBody s__law_next) (defScope s__law_next) .none kV8 dc8 pm8 an8 cd8 ct8), sl8⟩)
    (c8 : PySem.W.codeIn K cd8 "_law_next" = true) (k8 : PySem.W.keepIn K (.ref f8) = true)
    {f9 : Addr} {oc9 kV9 dc9 pm9 cd9 ct9 : Value} {od9 an9 : Option Addr} {sl9 : Array (Option Value)}
    (a9 : PySem.W.nsIn K mainGlobals "_law_new_name" = some (some (.ref f9)))
    (l9 : K.lookup f9 = some ⟨oc9, od9, .func (PySem.W.fnOf "_law_new_name" "_law_new_name" (defArgs s__law_new_name) (defBody s__law_new_name) (defScope s__law_new_name) .none kV9 dc9 pm9 an9 cd9 ct9), sl9⟩)
    (c9 : PySem.W.codeIn K cd9 "_law_new_name" = true) (k9 : PySem.W.keepIn K (.ref f9) = true)
    {f10 : Addr} {oc10 kV10 dc10 pm10 cd10 ct10 : Value} {od10 an10 : Option Addr} {sl10 : Array (Option Value)}
    (a10 : PySem.W.nsIn K mainGlobals "_law_row" = some (some (.ref f10)))
    (l10 : K.lookup f10 = some ⟨oc10, od10, .func (PySem.W.fnOf "_law_row" "_law_row" (defArgs s__law_row) (defBody s__law_row) (defScope s__law_row) .none kV10 dc10 pm10 an10 cd10 ct10), sl10⟩)
    (c10 : PySem.W.codeIn K cd10 "_law_row" = true) (k10 : PySem.W.keepIn K (.ref f10) = true)
    {f11 : Addr} {oc11 kV11 dc11 pm11 cd11 ct11 : Value} {od11 an11 : Option Addr} {sl11 : Array (Option Value)}
    (a11 : PySem.W.nsIn K mainGlobals "_law_moved" = some (some (.ref f11)))
    (l11 : K.lookup f11 = some ⟨oc11, od11, .func (PySem.W.fnOf "_law_moved" "_law_moved" (defArgs s__law_moved) (defBody s__law_moved) (defScope s__law_moved) .none kV11 dc11 pm11 an11 cd11 ct11), sl11⟩)
    (c11 : PySem.W.codeIn K cd11 "_law_moved" = true) (k11 : PySem.W.keepIn K (.ref f11) = true)
    {f12 : Addr} {oc12 kV12 dc12 pm12 cd12 ct12 : Value} {od12 an12 : Option Addr} {sl12 : Array (Option Value)}
    (a12 : PySem.W.nsIn K mainGlobals "_law_outside" = some (some (.ref f12)))
    (l12 : K.lookup f12 = some ⟨oc12, od12, .func (PySem.W.fnOf "_law_outside" "_law_outside" (defArgs s__law_outside) (defBody s__law_outside) (defScope s__law_outside) .none kV12 dc12 pm12 an12 cd12 ct12), sl12⟩)
    (c12 : PySem.W.codeIn K cd12 "_law_outside" = true) (k12 : PySem.W.keepIn K (.ref f12) = true)
    {f13 : Addr} {oc13 kV13 dc13 pm13 cd13 ct13 : Value} {od13 an13 : Option Addr} {sl13 : Array (Option Value)}
    (a13 : PySem.W.nsIn K mainGlobals "_law_word" = some (some (.ref f13)))
    (l13 : K.lookup f13 = some ⟨oc13, od13, .func (PySem.W.fnOf "_law_word" "_law_word" (defArgs s__law_word) (defBody s__law_word) (defScope s__law_word) .none kV13 dc13 pm13 an13 cd13 ct13), sl13⟩)
    (c13 : PySem.W.codeIn K cd13 "_law_word" = true) (k13 : PySem.W.keepIn K (.ref f13) = true)
    {f14 : Addr} {oc14 kV14 dc14 pm14 cd14 ct14 : Value} {od14 an14 : Option Addr} {sl14 : Array (Option Value)}
    (a14 : PySem.W.nsIn K mainGlobals "_law_mode" = some (some (.ref f14)))
    (l14 : K.lookup f14 = some ⟨oc14, od14, .func (PySem.W.fnOf "_law_mode" "_law_mode" (defArgs s__law_mode) (defBody s__law_mode) (defScope s__law_mode) .none kV14 dc14 pm14 an14 cd14 ct14), sl14⟩)
    (c14 : PySem.W.codeIn K cd14 "_law_mode" = true) (k14 : PySem.W.keepIn K (.ref f14) = true)
    {f15 : Addr} {oc15 kV15 dc15 pm15 cd15 ct15 : Value} {od15 an15 : Option Addr} {sl15 : Array (Option Value)}
    (a15 : PySem.W.nsIn K mainGlobals "_law_sentence" = some (some (.ref f15)))
    (l15 : K.lookup f15 = some ⟨oc15, od15, .func (PySem.W.fnOf "_law_sentence" "_law_sentence" (defArgs s__law_sentence) (defBody s__law_sentence) (defScope s__law_sentence) .none kV15 dc15 pm15 an15 cd15 ct15), sl15⟩)
    (c15 : PySem.W.codeIn K cd15 "_law_sentence" = true) (k15 : PySem.W.keepIn K (.ref f15) = true)
    {f16 : Addr} {oc16 kV16 dc16 pm16 cd16 ct16 : Value} {od16 an16 : Option Addr} {sl16 : Array (Option Value)}
    (a16 : PySem.W.nsIn K mainGlobals "_law_ref" = some (some (.ref f16)))
    (l16 : K.lookup f16 = some ⟨oc16, od16, .func (PySem.W.fnOf "_law_ref" "_law_ref" (defArgs s__law_ref) (defBody s__law_ref) (defScope s__law_ref) .none kV16 dc16 pm16 an16 cd16 ct16), sl16⟩)
    (c16 : PySem.W.codeIn K cd16 "_law_ref" = true) (k16 : PySem.W.keepIn K (.ref f16) = true)
    {f17 : Addr} {oc17 kV17 dc17 pm17 cd17 ct17 : Value} {od17 an17 : Option Addr} {sl17 : Array (Option Value)}
    (a17 : PySem.W.nsIn K mainGlobals "_law_grow" = some (some (.ref f17)))
    (l17 : K.lookup f17 = some ⟨oc17, od17, .func (PySem.W.fnOf "_law_grow" "_law_grow" (defArgs s__law_grow) (defBody s__law_grow) (defScope s__law_grow) .none kV17 dc17 pm17 an17 cd17 ct17), sl17⟩)
    (c17 : PySem.W.codeIn K cd17 "_law_grow" = true) (k17 : PySem.W.keepIn K (.ref f17) = true)
    {f18 : Addr} {oc18 kV18 dc18 pm18 cd18 ct18 : Value} {od18 an18 : Option Addr} {sl18 : Array (Option Value)}
    (a18 : PySem.W.nsIn K mainGlobals "_law_target" = some (some (.ref f18)))
    (l18 : K.lookup f18 = some ⟨oc18, od18, .func (PySem.W.fnOf "_law_target" "_law_target" (defArgs s__law_target) (defBody s__law_target) (defScope s__law_target) .none kV18 dc18 pm18 an18 cd18 ct18), sl18⟩)
    (c18 : PySem.W.codeIn K cd18 "_law_target" = true) (k18 : PySem.W.keepIn K (.ref f18) = true)
    {f19 : Addr} {oc19 kV19 dc19 pm19 cd19 ct19 : Value} {od19 an19 : Option Addr} {sl19 : Array (Option Value)}
    (a19 : PySem.W.nsIn K mainGlobals "_law_renaming" = some (some (.ref f19)))
    (l19 : K.lookup f19 = some ⟨oc19, od19, .func (PySem.W.fnOf "_law_renaming" "_law_renaming" (defArgs s__law_renaming) (defBody s__law_renaming) (defScope s__law_renaming) .none kV19 dc19 pm19 an19 cd19 ct19), sl19⟩)
    (c19 : PySem.W.codeIn K cd19 "_law_renaming" = true) (k19 : PySem.W.keepIn K (.ref f19) = true)
    {f20 : Addr} {oc20 kV20 dc20 pm20 cd20 ct20 : Value} {od20 an20 : Option Addr} {sl20 : Array (Option Value)}
    (a20 : PySem.W.nsIn K mainGlobals "_law_once_each" = some (some (.ref f20)))
    (l20 : K.lookup f20 = some ⟨oc20, od20, .func (PySem.W.fnOf "_law_once_each" "_law_once_each" (defArgs s__law_once_each) (defBody s__law_once_each) (defScope s__law_once_each) .none kV20 dc20 pm20 an20 cd20 ct20), sl20⟩)
    (c20 : PySem.W.codeIn K cd20 "_law_once_each" = true) (k20 : PySem.W.keepIn K (.ref f20) = true)
    {f21 : Addr} {oc21 kV21 dc21 pm21 cd21 ct21 : Value} {od21 an21 : Option Addr} {sl21 : Array (Option Value)}
    (a21 : PySem.W.nsIn K mainGlobals "_law_is_tree" = some (some (.ref f21)))
    (l21 : K.lookup f21 = some ⟨oc21, od21, .func (PySem.W.fnOf "_law_is_tree" "_law_is_tree" (defArgs s__law_is_tree) (defBody s__law_is_tree) (defScope s__law_is_tree) .none kV21 dc21 pm21 an21 cd21 ct21), sl21⟩)
    (c21 : PySem.W.codeIn K cd21 "_law_is_tree" = true) (k21 : PySem.W.keepIn K (.ref f21) = true)
    {f22 : Addr} {oc22 kV22 dc22 pm22 cd22 ct22 : Value} {od22 an22 : Option Addr} {sl22 : Array (Option Value)}
    (a22 : PySem.W.nsIn K mainGlobals "_law_moves" = some (some (.ref f22)))
    (l22 : K.lookup f22 = some ⟨oc22, od22, .func (PySem.W.fnOf "_law_moves" "_law_moves" (defArgs s__law_moves) (defBody s__law_moves) (defScope s__law_moves) .none kV22 dc22 pm22 an22 cd22 ct22), sl22⟩)
    (c22 : PySem.W.codeIn K cd22 "_law_moves" = true) (k22 : PySem.W.keepIn K (.ref f22) = true)
    {f23 : Addr} {oc23 kV23 dc23 pm23 cd23 ct23 : Value} {od23 an23 : Option Addr} {sl23 : Array (Option Value)}
    (a23 : PySem.W.nsIn K mainGlobals "_law_lists" = some (some (.ref f23)))
    (l23 : K.lookup f23 = some ⟨oc23, od23, .func (PySem.W.fnOf "_law_lists" "_law_lists" (defArgs s__law_lists) (defBody s__law_lists) (defScope s__law_lists) .none kV23 dc23 pm23 an23 cd23 ct23), sl23⟩)
    (c23 : PySem.W.codeIn K cd23 "_law_lists" = true) (k23 : PySem.W.keepIn K (.ref f23) = true)
    {f24 : Addr} {oc24 kV24 dc24 pm24 cd24 ct24 : Value} {od24 an24 : Option Addr} {sl24 : Array (Option Value)}
    (a24 : PySem.W.nsIn K mainGlobals "_law_two_hops" = some (some (.ref f24)))
    (l24 : K.lookup f24 = some ⟨oc24, od24, .func (PySem.W.fnOf "_law_two_hops" "_law_two_hops" (defArgs s__law_two_hops) (defBody s__law_two_hops) (defScope s__law_two_hops) .none kV24 dc24 pm24 an24 cd24 ct24), sl24⟩)
    (c24 : PySem.W.codeIn K cd24 "_law_two_hops" = true) (k24 : PySem.W.keepIn K (.ref f24) = true)
    {f25 : Addr} {oc25 kV25 dc25 pm25 cd25 ct25 : Value} {od25 an25 : Option Addr} {sl25 : Array (Option Value)}
    (a25 : PySem.W.nsIn K mainGlobals "_law_back" = some (some (.ref f25)))
    (l25 : K.lookup f25 = some ⟨oc25, od25, .func (PySem.W.fnOf "_law_back" "_law_back" (defArgs s__law_back) (defBody s__law_back) (defScope s__law_back) .none kV25 dc25 pm25 an25 cd25 ct25), sl25⟩)
    (c25 : PySem.W.codeIn K cd25 "_law_back" = true) (k25 : PySem.W.keepIn K (.ref f25) = true)
    {f26 : Addr} {oc26 kV26 dc26 pm26 cd26 ct26 : Value} {od26 an26 : Option Addr} {sl26 : Array (Option Value)}
    (a26 : PySem.W.nsIn K mainGlobals "law" = some (some (.ref f26)))
    (l26 : K.lookup f26 = some ⟨oc26, od26, .func (PySem.W.fnOf "law" "law" (defArgs s_law) (defBody s_law) (defScope s_law) .none kV26 dc26 pm26 an26 cd26 ct26), sl26⟩)
    (c26 : PySem.W.codeIn K cd26 "law" = true) (k26 : PySem.W.keepIn K (.ref f26) = true)
    (z0 : PySem.W.nsIn K mainGlobals "abs" = some none)
    (z1 : PySem.W.nsIn K mainGlobals "dict" = some none)
    (z2 : PySem.W.nsIn K mainGlobals "int" = some none)
    (z3 : PySem.W.nsIn K mainGlobals "isinstance" = some none)
    (z4 : PySem.W.nsIn K mainGlobals "len" = some none)
    (z5 : PySem.W.nsIn K mainGlobals "list" = some none)
    (z6 : PySem.W.nsIn K mainGlobals "max" = some none)
    (z7 : PySem.W.nsIn K mainGlobals "min" = some none)
    (z8 : PySem.W.nsIn K mainGlobals "range" = some none)
    (z9 : PySem.W.nsIn K mainGlobals "repr" = some none)
    (z10 : PySem.W.nsIn K mainGlobals "str" = some none)
    (z11 : PySem.W.nsIn K mainGlobals "tuple" = some none)
    {p0 : Addr} {es0 : Array DictEntry} {n0 : Nat} {t0 t1 t2 t3 t4 t5 t6 t7 t8 : Tok}
    (d0 : PySem.W.nsIn K mainGlobals "PREMISES" = some (some (.ref p0)))
    (d1 : K.lookup p0 = some ⟨.type "dict", none, .dict es0 n0, #[]⟩)
    (d2 : PySem.W.KeysLit w.params es0.toList)
    (e0 : PySem.W.nsIn K p0 "own" = some (some (.int 0 t0)))
    (e1 : PySem.W.nsIn K p0 "cite" = some (some (.int 0 t1)))
    (e2 : PySem.W.nsIn K p0 "take" = some (some (.int 1 t2)))
    (e3 : PySem.W.nsIn K p0 "pick" = some (some (.int 1 t3)))
    (e4 : PySem.W.nsIn K p0 "make" = some (some (.int 1 t4)))
    (e5 : PySem.W.nsIn K p0 "open" = some (some (.int 1 t5)))
    (e6 : PySem.W.nsIn K p0 "offer" = some (some (.int 2 t6)))
    (e7 : PySem.W.nsIn K p0 "pay" = some (some (.int 2 t7)))
    (e8 : PySem.W.nsIn K p0 "cut" = some (some (.int 2 t8)))
    : Tx K w mg where
  a_premises := f0
  d_premises := _
  F_premises := fun_mk (st := s_premises) l0 c0 k0
  g_premises := PySem.W.mg_of X G a0
  b_premises := (fun_mk (st := s_premises) l0 c0 k0).binds (ps := ["derivation"]) fun _ _ _ _ _ _ us hl => match us, hl with | [_], _ => rfl
  a_rebuilt := f1
  d_rebuilt := _
  F_rebuilt := fun_mk (st := s_rebuilt) l1 c1 k1
  g_rebuilt := PySem.W.mg_of X G a1
  b_rebuilt := (fun_mk (st := s_rebuilt) l1 c1 k1).binds (ps := ["derivation", "parts"]) fun _ _ _ _ _ _ us hl => match us, hl with | [_, _], _ => rfl
  a_refers_to := f2
  d_refers_to := _
  F_refers_to := fun_mk (st := s_refers_to) l2 c2 k2
  g_refers_to := PySem.W.mg_of X G a2
  b_refers_to := (fun_mk (st := s_refers_to) l2 c2 k2).binds (ps := ["derivation"]) fun _ _ _ _ _ _ us hl => match us, hl with | [_], _ => rfl
  a_moved_ref := f3
  d_moved_ref := _
  F_moved_ref := fun_mk (st := s_moved_ref) l3 c3 k3
  g_moved_ref := PySem.W.mg_of X G a3
  b_moved_ref := (fun_mk (st := s_moved_ref) l3 c3 k3).binds (ps := ["ref", "old", "new", "renamed"]) fun _ _ _ _ _ _ us hl => match us, hl with | [_, _, _, _], _ => rfl
  a_moved := f4
  d_moved := _
  F_moved := fun_mk (st := s_moved) l4 c4 k4
  g_moved := PySem.W.mg_of X G a4
  b_moved := (fun_mk (st := s_moved) l4 c4 k4).binds (ps := ["derivation", "old", "new", "renamed"]) fun _ _ _ _ _ _ us hl => match us, hl with | [_, _, _, _], _ => rfl
  a_free_refs := f5
  d_free_refs := _
  F_free_refs := fun_mk (st := s_free_refs) l5 c5 k5
  g_free_refs := PySem.W.mg_of X G a5
  b_free_refs := (fun_mk (st := s_free_refs) l5 c5 k5).binds (ps := ["derivation", "level"]) fun _ _ _ _ _ _ us hl => match us, hl with | [_, _], _ => rfl
  a__law_cell := f6
  d__law_cell := _
  F__law_cell := fun_mk (st := s__law_cell) l6 c6 k6
  g__law_cell := PySem.W.mg_of X G a6
  b__law_cell := (fun_mk (st := s__law_cell) l6 c6 k6).binds (ps := ["script", "k"]) fun _ _ _ _ _ _ us hl => match us, hl with | [_, _], _ => rfl
  a__law_pool := f7
  d__law_pool := _
  F__law_pool := fun_mk (st := s__law_pool) l7 c7 k7
  g__law_pool := PySem.W.mg_of X G a7
  b__law_pool := (fun_mk (st := s__law_pool) l7 c7 k7).binds (ps := ["script", "k"]) fun _ _ _ _ _ _ us hl => match us, hl with | [_, _], _ => rfl
  a__law_next := f8
  d__law_next := _
  F__law_next := fun_mk (st := s__law_next) l8 c8 k8
  g__law_next := PySem.W.mg_of X G a8
  b__law_next := (fun_mk (st := s__law_next) l8 c8 k8).binds (ps := ["pool", "many"]) fun _ _ _ _ _ _ us hl => match us, hl with | [_, _], _ => rfl
  a__law_new_name := f9
  d__law_new_name := _
  F__law_new_name := fun_mk (st := s__law_new_name) l9 c9 k9
  g__law_new_name := PySem.W.mg_of X G a9
  b__law_new_name := (fun_mk (st := s__law_new_name) l9 c9 k9).binds (ps := ["pool", "taken"]) fun _ _ _ _ _ _ us hl => match us, hl with | [_, _], _ => rfl
  a__law_row := f10
  d__law_row := _
  F__law_row := fun_mk (st := s__law_row) l10 c10 k10
  g__law_row := PySem.W.mg_of X G a10
  b__law_row := (fun_mk (st := s__law_row) l10 c10 k10).binds (ps := ["item"]) fun _ _ _ _ _ _ us hl => match us, hl with | [_], _ => rfl
  a__law_moved := f11
  d__law_moved := _
  F__law_moved := fun_mk (st := s__law_moved) l11 c11 k11
  g__law_moved := PySem.W.mg_of X G a11
  b__law_moved := (fun_mk (st := s__law_moved) l11 c11 k11).binds (ps := ["tree", "old", "new", "names"]) fun _ _ _ _ _ _ us hl => match us, hl with | [_, _, _, _], _ => rfl
  a__law_outside := f12
  d__law_outside := _
  F__law_outside := fun_mk (st := s__law_outside) l12 c12 k12
  g__law_outside := PySem.W.mg_of X G a12
  b__law_outside := (fun_mk (st := s__law_outside) l12 c12 k12).binds (ps := ["tree", "level"]) fun _ _ _ _ _ _ us hl => match us, hl with | [_, _], _ => rfl
  a__law_word := f13
  d__law_word := _
  F__law_word := fun_mk (st := s__law_word) l13 c13 k13
  g__law_word := PySem.W.mg_of X G a13
  b__law_word := (fun_mk (st := s__law_word) l13 c13 k13).binds (ps := ["state"]) fun _ _ _ _ _ _ us hl => match us, hl with | [_], _ => rfl
  a__law_mode := f14
  d__law_mode := _
  F__law_mode := fun_mk (st := s__law_mode) l14 c14 k14
  g__law_mode := PySem.W.mg_of X G a14
  b__law_mode := (fun_mk (st := s__law_mode) l14 c14 k14).binds (ps := ["pool", "room"]) fun _ _ _ _ _ _ us hl => match us, hl with | [_, _], _ => rfl
  a__law_sentence := f15
  d__law_sentence := _
  F__law_sentence := fun_mk (st := s__law_sentence) l15 c15 k15
  g__law_sentence := PySem.W.mg_of X G a15
  b__law_sentence := (fun_mk (st := s__law_sentence) l15 c15 k15).binds (ps := ["state", "depth"]) fun _ _ _ _ _ _ us hl => match us, hl with | [_, _], _ => rfl
  a__law_ref := f16
  d__law_ref := _
  F__law_ref := fun_mk (st := s__law_ref) l16 c16 k16
  g__law_ref := PySem.W.mg_of X G a16
  b__law_ref := (fun_mk (st := s__law_ref) l16 c16 k16).binds (ps := ["state", "level"]) fun _ _ _ _ _ _ us hl => match us, hl with | [_, _], _ => rfl
  a__law_grow := f17
  d__law_grow := _
  F__law_grow := fun_mk (st := s__law_grow) l17 c17 k17
  g__law_grow := PySem.W.mg_of X G a17
  b__law_grow := (fun_mk (st := s__law_grow) l17 c17 k17).binds (ps := ["state", "level", "room", "many"]) fun _ _ _ _ _ _ us hl => match us, hl with | [_, _, _, _], _ => rfl
  a__law_target := f18
  d__law_target := _
  F__law_target := fun_mk (st := s__law_target) l18 c18 k18
  g__law_target := PySem.W.mg_of X G a18
  b__law_target := (fun_mk (st := s__law_target) l18 c18 k18).binds (ps := ["pool", "names", "room"]) fun _ _ _ _ _ _ us hl => match us, hl with | [_, _, _], _ => rfl
  a__law_renaming := f19
  d__law_renaming := _
  F__law_renaming := fun_mk (st := s__law_renaming) l19 c19 k19
  g__law_renaming := PySem.W.mg_of X G a19
  b__law_renaming := (fun_mk (st := s__law_renaming) l19 c19 k19).binds (ps := ["pool", "refs", "names", "old", "new"]) fun _ _ _ _ _ _ us hl => match us, hl with | [_, _, _, _, _], _ => rfl
  a__law_once_each := f20
  d__law_once_each := _
  F__law_once_each := fun_mk (st := s__law_once_each) l20 c20 k20
  g__law_once_each := PySem.W.mg_of X G a20
  b__law_once_each := (fun_mk (st := s__law_once_each) l20 c20 k20).binds (ps := ["refs", "images"]) fun _ _ _ _ _ _ us hl => match us, hl with | [_, _], _ => rfl
  a__law_is_tree := f21
  d__law_is_tree := _
  F__law_is_tree := fun_mk (st := s__law_is_tree) l21 c21 k21
  g__law_is_tree := PySem.W.mg_of X G a21
  b__law_is_tree := (fun_mk (st := s__law_is_tree) l21 c21 k21).binds (ps := ["told", "due"]) fun _ _ _ _ _ _ us hl => match us, hl with | [_, _], _ => rfl
  a__law_moves := f22
  d__law_moves := _
  F__law_moves := fun_mk (st := s__law_moves) l22 c22 k22
  g__law_moves := PySem.W.mg_of X G a22
  b__law_moves := (fun_mk (st := s__law_moves) l22 c22 k22).binds (ps := ["tree", "old", "new", "names", "due"]) fun _ _ _ _ _ _ us hl => match us, hl with | [_, _, _, _, _], _ => rfl
  a__law_lists := f23
  d__law_lists := _
  F__law_lists := fun_mk (st := s__law_lists) l23 c23 k23
  g__law_lists := PySem.W.mg_of X G a23
  b__law_lists := (fun_mk (st := s__law_lists) l23 c23 k23).binds (ps := ["tree", "level", "due"]) fun _ _ _ _ _ _ us hl => match us, hl with | [_, _, _], _ => rfl
  a__law_two_hops := f24
  d__law_two_hops := _
  F__law_two_hops := fun_mk (st := s__law_two_hops) l24 c24 k24
  g__law_two_hops := PySem.W.mg_of X G a24
  b__law_two_hops := (fun_mk (st := s__law_two_hops) l24 c24 k24).binds (ps := ["state", "tree", "pool", "levels"]) fun _ _ _ _ _ _ us hl => match us, hl with | [_, _, _, _], _ => rfl
  a__law_back := f25
  d__law_back := _
  F__law_back := fun_mk (st := s__law_back) l25 c25 k25
  g__law_back := PySem.W.mg_of X G a25
  b__law_back := (fun_mk (st := s__law_back) l25 c25 k25).binds (ps := ["state", "tree", "pool", "a", "b"]) fun _ _ _ _ _ _ us hl => match us, hl with | [_, _, _, _, _], _ => rfl
  a_law := f26
  d_law := _
  F_law := fun_mk (st := s_law) l26 c26 k26
  g_law := PySem.W.mg_of X G a26
  b_law := (fun_mk (st := s_law) l26 c26 k26).binds (ps := ["script"]) fun _ _ _ _ _ _ us hl => match us, hl with | [_], _ => rfl
  z_abs := PySem.W.mg_none_of X G z0
  z_dict := PySem.W.mg_none_of X G z1
  z_int := PySem.W.mg_none_of X G z2
  z_isinstance := PySem.W.mg_none_of X G z3
  z_len := PySem.W.mg_none_of X G z4
  z_list := PySem.W.mg_none_of X G z5
  z_max := PySem.W.mg_none_of X G z6
  z_min := PySem.W.mg_none_of X G z7
  z_range := PySem.W.mg_none_of X G z8
  z_repr := PySem.W.mg_none_of X G z9
  z_str := PySem.W.mg_none_of X G z10
  z_tuple := PySem.W.mg_none_of X G z11
  p_PREMISES := p0
  g_PREMISES := PySem.W.mg_of X G d0
  prem := fun t => match t with | .own _ => ⟨es0, n0, _, d1, d2, e0, t0, rfl⟩ | .cite _ => ⟨es0, n0, _, d1, d2, e1, t1, rfl⟩ | .take _ => ⟨es0, n0, _, d1, d2, e2, t2, rfl⟩ | .pick _ _ _ => ⟨es0, n0, _, d1, d2, e3, t3, rfl⟩ | .make _ _ _ => ⟨es0, n0, _, d1, d2, e4, t4, rfl⟩ | .opn _ _ _ _ => ⟨es0, n0, _, d1, d2, e5, t5, rfl⟩ | .offer _ _ => ⟨es0, n0, _, d1, d2, e6, t6, rfl⟩ | .pay _ _ _ _ => ⟨es0, n0, _, d1, d2, e7, t7, rfl⟩ | .cut _ _ _ _ => ⟨es0, n0, _, d1, d2, e8, t8, rfl⟩
theorem law_binds {K : PySem.W.Frag} {f : Addr} {fd : FuncData} (F : Fun K "law" "law" s_law f fd) : ∀ (s : Shared) (u : Value), BindsTo s fd ⟨[u], []⟩ [("script", u)] := by
  obtain ⟨oc, od, kV, doc, pm, an, cdv, ct, osl, e, lk, hcd⟩ := F.ex
  subst e
  exact fun s u => .of_eq rfl
theorem of_tx {P : Program} {w : World} {K : PySem.W.Frag} {mg : Str → Option Value} {fa : Addr} (T : Tx K w mg) (h : mg "law" = some (.ref fa)) :
    ∃ fd : FuncData, (∀ (s : Shared) (u : Value), BindsTo s fd ⟨[u], []⟩ [("script", u)]) ∧
      ∀ base : Heap, K.In base → base.Ns mainGlobals mg → GnOk P w K mg base CX0 44 fa fd ["script"] (spLaw K) := by
  have e : fa = T.a_law := by
    have q := T.g_law
    rw [h] at q
    cases q
    rfl
  subst e
  exact ⟨T.d_law, law_binds T.F_law, fun base _ _ => ok_law T⟩
end HA
open PySem PySem.W PyProof.Rows
set_option maxRecDepth 100000 in
set_option maxHeartbeats 0 in
theorem PySem.Challenge.cw_heldanswers_k00_moves_in_two_hops_holds : PySem.Challenge.rw_heldanswers_k00_moves_in_two_hops.Holds := by
  w_on; o_law; k_head; (case hw => w_witness2)
  k_fill
  refine HA.walk_ofG (n := 63) (k := 44) (x := "script") (sp := HA.spLaw) (l := PySem.Challenge.rw_heldanswers_k00_moves_in_two_hops) rfl (by decide) rfl ⟨rfl, by decide, by decide⟩ (fun w h Y => PySem.W.kIn_of Y) ?F fun K H a ns hs => ⟨a, ns, rfl, hs, fun _ => rfl⟩
  case F =>
    intro w mg fa h KX G hmg
    refine' HA.of_tx (HA.all_tx (w := w) KX G ?a0 ?l0 ?c0 ?k0 ?a1 ?l1 ?c1 ?k1 ?a2 ?l2 ?c2 ?k2 ?a3 ?l3 ?c3 ?k3 ?a4 ?l4 ?c4 ?k4 ?a5 ?l5 ?c5 ?k5 ?a6 ?l6 ?c6 ?k6 ?a7 ?l7 ?c7 ?k7 ?a8 ?l8 ?c8 ?k8 ?a9 ?l9 ?c9 ?k9 ?a10 ?l10 ?c10 ?k10 ?a11 ?l11 ?c11 ?k11 ?a12 ?l12 ?c12 ?k12 ?a13 ?l13 ?c13 ?k13 ?a14 ?l14 ?c14 ?k14 ?a15 ?l15 ?c15 ?k15 ?a16 ?l16 ?c16 ?k16 ?a17 ?l17 ?c17 ?k17 ?a18 ?l18 ?c18 ?k18 ?a19 ?l19 ?c19 ?k19 ?a20 ?l20 ?c20 ?k20 ?a21 ?l21 ?c21 ?k21 ?a22 ?l22 ?c22 ?k22 ?a23 ?l23 ?c23 ?k23 ?a24 ?l24 ?c24 ?k24 ?a25 ?l25 ?c25 ?k25 ?a26 ?l26 ?c26 ?k26 ?z0 ?z1 ?z2 ?z3 ?z4 ?z5 ?z6 ?z7 ?z8 ?z9 ?z10 ?z11 ?d0 ?d1 ?d2 ?e0 ?e1 ?e2 ?e3 ?e4 ?e5 ?e6 ?e7 ?e8) hmg
    (case a0 => k_is)
    (case l0 => k_is)
    (case c0 => k_is)
    (case k0 => k_is)
    (case a1 => k_is)
    (case l1 => k_is)
    (case c1 => k_is)
    (case k1 => k_is)
    (case a2 => k_is)
    (case l2 => k_is)
    (case c2 => k_is)
    (case k2 => k_is)
    (case a3 => k_is)
    (case l3 => k_is)
    (case c3 => k_is)
    (case k3 => k_is)
    (case a4 => k_is)
    (case l4 => k_is)
    (case c4 => k_is)
    (case k4 => k_is)
    (case a5 => k_is)
    (case l5 => k_is)
    (case c5 => k_is)
    (case k5 => k_is)
    (case a6 => k_is)
    (case l6 => k_is)
    (case c6 => k_is)
    (case k6 => k_is)
    (case a7 => k_is)
    (case l7 => k_is)
    (case c7 => k_is)
    (case k7 => k_is)
    (case a8 => k_is)
    (case l8 => k_is)
    (case c8 => k_is)
    (case k8 => k_is)
    (case a9 => k_is)
    (case l9 => k_is)
    (case c9 => k_is)
    (case k9 => k_is)
    (case a10 => k_is)
    (case l10 => k_is)
    (case c10 => k_is)
    (case k10 => k_is)
    (case a11 => k_is)
    (case l11 => k_is)
    (case c11 => k_is)
    (case k11 => k_is)
    (case a12 => k_is)
    (case l12 => k_is)
    (case c12 => k_is)
    (case k12 => k_is)
    (case a13 => k_is)
    (case l13 => k_is)
    (case c13 => k_is)
    (case k13 => k_is)
    (case a14 => k_is)
    (case l14 => k_is)
    (case c14 => k_is)
    (case k14 => k_is)
    (case a15 => k_is)
    (case l15 => k_is)
    (case c15 => k_is)
    (case k15 => k_is)
    (case a16 => k_is)
    (case l16 => k_is)
    (case c16 => k_is)
    (case k16 => k_is)
    (case a17 => k_is)
    (case l17 => k_is)
    (case c17 => k_is)
    (case k17 => k_is)
    (case a18 => k_is)
    (case l18 => k_is)
    (case c18 => k_is)
    (case k18 => k_is)
    (case a19 => k_is)
    (case l19 => k_is)
    (case c19 => k_is)
    (case k19 => k_is)
    (case a20 => k_is)
    (case l20 => k_is)
    (case c20 => k_is)
    (case k20 => k_is)
    (case a21 => k_is)
    (case l21 => k_is)
    (case c21 => k_is)
    (case k21 => k_is)
    (case a22 => k_is)
    (case l22 => k_is)
    (case c22 => k_is)
    (case k22 => k_is)
    (case a23 => k_is)
    (case l23 => k_is)
    (case c23 => k_is)
    (case k23 => k_is)
    (case a24 => k_is)
    (case l24 => k_is)
    (case c24 => k_is)
    (case k24 => k_is)
    (case a25 => k_is)
    (case l25 => k_is)
    (case c25 => k_is)
    (case k25 => k_is)
    (case a26 => k_is)
    (case l26 => k_is)
    (case c26 => k_is)
    (case k26 => k_is)
    (case z0 => k_is)
    (case z1 => k_is)
    (case z2 => k_is)
    (case z3 => k_is)
    (case z4 => k_is)
    (case z5 => k_is)
    (case z6 => k_is)
    (case z7 => k_is)
    (case z8 => k_is)
    (case z9 => k_is)
    (case z10 => k_is)
    (case z11 => k_is)
    (case d0 => k_is)
    (case d1 => k_is)
    (case d2 => repeat (first | exact trivial | refine ⟨⟨_, _, rfl, rfl⟩, ?_⟩))
    (case e0 => k_is)
    (case e1 => k_is)
    (case e2 => k_is)
    (case e3 => k_is)
    (case e4 => k_is)
    (case e5 => k_is)
    (case e6 => k_is)
    (case e7 => k_is)
    (case e8 => k_is)

