import PyProof.Rows.All
import Wide.All
import OpenK.AllK
import Wide.FinOn
import HandS.ForMost
import HandS.Star
import HandS.TupAny
import HandS.Deep
import HandS.DictComp
import HandS.Style
import HandS.Wide
import HandS.IsInst
import HandS.Conv
import HandS.EndBits
import HandS.Zip
import PyProof.ReprRoads
import HandS.Slots
import HandS.Walk
import HandS.TupMul
import HandS.Codes
import HandS.WideBits
import PyProof.Rows.RuleB_pow
import KE.GoesMore
import HandS.TryOnly
import HandS.Flt
import PySem.Challenge.RW_eithermended_k84_whole_long_rows_with_te
import HandS.Defaults
set_option Elab.async false
set_option linter.all false
set_option maxRecDepth 100000
/-! Ek1: defs with the guards told, repr over data. -/
namespace Ek
open PySem PySem.Spec PyProof.Rows L2

/-- a def of the module that is called by name: what it promises where no repr runs around -/
def CalR (P : Program) (w : World) (K : PySem.W.Frag) (mg : Str → Option Value) (base : Heap) (CX : CXT) (k : Nat) (x : Str) (sp : Sp) : Prop :=
  ∃ f : Addr, mg x = some (.ref f) ∧ PySem.W.keepIn K (.ref f) = true ∧
    ∀ (A : Around) (outer : List Env) (s : Shared) (H : Hp) (us : List Value) (vs : List V) (Q : VK) (E : XK),
      A.guards = some [] → Room k A → Env0 P w K mg base A outer s H → Vals vs us → sp vs H Q E →
      codeAny (model P w) A (.call (.ref f) ⟨us, []⟩) (CR CX outer P w H s Q E) s

section
variable {P : Program} {w : World} {K : PySem.W.Frag} {mg : Str → Option Value} {base : Heap} {CX : CXT} {k : Nat} {x : Str} {sp : Sp}
theorem CalR.mono {j : Nat} (F : CalR P w K mg base CX j x sp) (h : j ≤ k) : CalR P w K mg base CX k x sp := by
  obtain ⟨f, a, b, c⟩ := F
  exact ⟨f, a, b, fun A outer s H us vs Q E g hr => c A outer s H us vs Q E g (hr.mono h)⟩

/-- a def of the module, with defaults or without -/
structure Fn (K : PySem.W.Frag) (x : Str) (st : Stmt) (f : Addr) (fd : FuncData) : Prop where
  ex : ∃ (oc : Value) (od : Option Addr) (dV kV doc pm : Value) (an : Option Addr) (cdv ct : Value) (osl : Array (Option Value)),
    fd = PySem.W.fnOf x x (defArgs st) (defBody st) (defScope st) dV kV doc pm an cdv ct ∧ K.lookup f = some ⟨oc, od, .func fd, osl⟩ ∧ PySem.W.codeIn K cdv x = true
  kp : PySem.W.keepIn K (.ref f) = true
theorem fn_mk {x : Str} {st : Stmt} {f : Addr} {oc : Value} {od an : Option Addr} {osl : Array (Option Value)} {dV kV doc pm cdv ct : Value} (l : K.lookup f = some ⟨oc, od, .func (PySem.W.fnOf x x (defArgs st) (defBody st) (defScope st) dV kV doc pm an cdv ct), osl⟩)
    (c : PySem.W.codeIn K cdv x = true) (k : PySem.W.keepIn K (.ref f) = true) : Fn K x st f (PySem.W.fnOf x x (defArgs st) (defBody st) (defScope st) dV kV doc pm an cdv ct) := ⟨⟨oc, od, dV, kV, doc, pm, an, cdv, ct, osl, rfl, l, c⟩, k⟩
/-- a def by its body -/
theorem cal_of {st : Stmt} {f : Addr} {fd : FuncData} {N ps : List Str} {dvs : List V} {ds : List Value} {sp : Sp}
    (F : Fn K x st f fd) (hm : mg x = some (.ref f)) (S : FnScope N ps (defScope st)) (hb : Binds K fd ps ds) (hd : Vals dvs ds)
    (len : ∀ vs H Q E, sp vs H Q E → (vs ++ dvs).length = ps.length)
    (body : ∀ (cdv : Value) (A : Around) (outer : List Env) (s : Shared) (H : Hp) (vs : List V) (Q : VK) (E : XK), A.guards = some [] →
      Room k (A.deeper (envOfC x (defScope st) s.heap.objs.size f cdv)) → sp vs H Q E →
      ∃ t, PSs (cxOf CX P w K mg base N x (defScope st) f cdv A outer s H E).nox (defBody st) t ∧ t { nx := fun _ H' => Q .non H', rt := Q } (start N (vs ++ dvs)) H) :
    CalR P w K mg base CX (k + 1) x sp := by
  obtain ⟨oc, od, dV, kV, doc, pm, an, cdv, ct, osl, rfl, lk, hcd⟩ := F.ex
  refine ⟨f, hm, F.kp, fun A outer s H us0 vs0 Q E hG hr e0 r0 hsp => ?_⟩
  have hl : (vs0 ++ dvs).length = ps.length := len _ _ _ _ hsp
  have r : Vals (vs0 ++ dvs) (us0 ++ ds) := r0.append hd
  have KX : K.In s.heap := e0.mod.kin.keeps fun b o z => (e0.bs b o z).1
  have lim : s.heap.NoLimit := e0.mod.nolimit.keeps fun b o z => (e0.bs b o z).1
  have hkind : ∀ y ∈ ps.zip (us0 ++ ds), (defScope st).names.lookup y.1 = some .local ∨
      ((defScope st).names.lookup y.1 = some .cell ∧ ((cellsFrom (s.heap.objs.size + 1) (defScope st).names []).lookup y.1).isSome = true) := by
    rintro ⟨n, v⟩ hy
    rcases S.par n (List.of_mem_zip hy).1 with q | q
    · exact .inl q
    · exact .inr ⟨q, PySem.W.cellsFrom_some _ _ _ (.inl q)⟩
  have hbind := hb s us0 KX (by rw [← r.length]; exact hl)
  refine codeAny_call_function hr.depth (KX _ _ lk) rfl S.co S.gen rfl (PySem.W.codeRec_of KX hcd) (hbind _ _ _ _ ?_)
  refine wpAny_newFunctionEnv_cells S.kind hkind fun env he s1 xc => ?_
  subst he
  refine ⟨lim.keeps xc.toInCall.keep, codeAny_func ?_⟩
  obtain ⟨t, ht, hq⟩ := body cdv A outer s H vs0 Q E hG (hr.deeper _) hsp
  have I := inv_start (CX := CX) (P := P) (w := w) (mg := mg) (E := E) S hr.hd e0 hl r xc
  refine wpAny_mono (ht.nox.run [] s1 _ H _ I hq) (fun fl s' hs => ?_) fun e s' hs => hs
  cases fl with
  | ret u =>
    obtain ⟨v, σ', H', J, rv, q⟩ := hs
    exact ⟨v, H', J.os, J.bare, J.base, J.hok, rv, q⟩
  | next =>
    obtain ⟨σ', H', J, q⟩ := hs
    exact ⟨V.non, H', J.os, J.bare, J.base, J.hok, rfl, q⟩
  | brk =>
    obtain ⟨_, _, _, q⟩ := hs
    exact q.elim
  | cont =>
    obtain ⟨_, _, _, q⟩ := hs
    exact q.elim
end

section
variable {X : Cx} {CX : CXT} {k : Nat} {sp : Sp} {E : XK} {x : Str} {p pos : Pos} {e : Expr} {es : List Expr} {t : TA}
theorem run_cal {f : Addr} {pins : List (Addr × Obj)} {σ : L2.St} {H : Hp} {s : Shared} {Q : VK} {us : List Value} {vs : List V}
    (F : ∀ (A : Around) (outer : List Env) (s : Shared) (H : Hp) (us : List Value) (vs : List V) (Q : VK) (E : XK),
      A.guards = some [] → Room k A → Env0 X.prog X.w X.K X.mg X.base A outer s H → Vals vs us → sp vs H Q E →
      codeAny (model X.prog X.w) A (.call (.ref f) ⟨us, []⟩) (CR CX outer X.prog X.w H s Q E) s)
    (hG : X.A.guards = some []) (hr : Room k X.A) (hx : Passes CX X E) (I : Inv X pins σ H s) (r : Vals vs us) (h : sp vs H Q E) :
    wpAny (model X.prog X.w) X.A (call (.ref f) us) (EP X pins σ Q) X.xe s := by
  refine wpAny_call (codeAny_mono (F X.A X.stack s H us vs Q E hG hr I.env0 r h) fun r s' hq => ?_)
  cases r with
  | error e => exact hx pins σ H s e s' I hq
  | ok fl =>
    cases fl with
    | ret u => exact I.after hq
    | next => exact hq.elim
    | brk => exact hq.elim
    | cont => exact hq.elim
/-- f(e, ..) -/
def tCal (sp : Sp) (E : XK) (t : TA) : TE := fun σ H Q => t σ H fun vs H1 => sp vs H1 Q E
theorem pe_cal (F : CalR X.prog X.w X.K X.mg X.base CX k x sp) (hG : X.A.guards = some []) (hr : Room k X.A) (hx : Passes CX X E) (ha : PA X (e :: es) t) (hg : Gl X x := by rfl)
    (hdb : (x == ("__debug__" : Str)) = false := by decide) (he : starEach (e :: es) X.env = (false, eval e X.env) :: starEach es X.env := by rfl)
    (hpl : (backTo pos (starEach es X.env)).any (·.1) = false := by rfl) : PE X (.Call (.Name x p) (e :: es) [] pos) (tCal sp E t) := by
  obtain ⟨f, hm, hk, F⟩ := F
  refine ⟨fun pins s σ H Q I h => ?_⟩
  refine wpAny_Call_Name_kw (ld_glob I hg hm ?_ hdb)
  refine PySem.W.callWith_K (h₀ := X.base) I.ok.mod.kin hk (thn (ha.run pos pins s σ H _ I h) fun us s1 hh => ?_) he hpl
  obtain ⟨vs, H1, I1, r, q⟩ := hh
  exact ⟨I1.kIn, run_cal F hG hr hx I1 r q⟩
theorem pe_cal0 (F : CalR X.prog X.w X.K X.mg X.base CX k x sp) (hG : X.A.guards = some []) (hr : Room k X.A) (hx : Passes CX X E) (hg : Gl X x := by rfl)
    (hdb : (x == ("__debug__" : Str)) = false := by decide) : PE X (.Call (.Name x p) [] [] pos) (tCal sp E tNil) := by
  obtain ⟨f, hm, hk, F⟩ := F
  refine ⟨fun pins s σ H Q I h => ?_⟩
  refine wpAny_Call_Name_kw (ld_glob I hg hm ?_ hdb)
  exact PySem.W.callWith_K0 I.kIn hk (run_cal (us := []) F hG hr hx I .nil h)
end

/-! ### repr of data -/
/-- data that may be shown -/
structure Shw (d : PyData) : Prop where
  ok : d.showable = true
  nd : d.hasDict = false
  dp : d.depth ≤ 40
  sz : d.shown.length ≤ sizeLine
section
variable {X : Cx}
def rRepr (K : PySem.W.Frag) : List V → Hp → VK → Prop := fun xs H Q => ∃ v d, xs = [v] ∧ Dp K H v d ∧ Shw d ∧ Q (.str d.shown) H
theorem call_repr (hG : X.A.guards = some []) (hu : X.A.units + 64 < cLine) : CallR X (.builtin "repr") (rRepr X.K) := by
  intro pins s σ H xs us Q I r h
  obtain ⟨v, d, rfl, hd, S, q⟩ := h
  cases r with
  | cons rv rn =>
    cases rn
    rename_i u
    have done : ∀ (tk : Nat), EP X pins σ Q (.str d.shown tk) { s with toks := s.toks + 1 } := fun tk => ⟨.str d.shown, H, I.tok _, ⟨_, rfl⟩, q⟩
    obtain ⟨as, hrd⟩ := Dp.reads I d v u hd rv
    have big : ∀ {a : Addr}, u = .ref a → wpAny (model X.prog X.w) X.A (call (.builtin "repr") [u]) (EP X pins σ Q) X.xe s := by
      rintro a rfl
      refine repr_of_reads' hrd S.ok (fun z => by rw [S.nd] at z; cases z) hG (by have := S.dp; omega) (fun _ _ e => e) (fun h' u' tk hk => ?_) S.sz
      exact ⟨.str d.shown, H, I.kept hk, ⟨_, rfl⟩, q⟩
    cases hd with
    | non => obtain rfl := rv; exact PySem.P.repr_of_none ⟨.str _, H, I.tok _, ⟨_, rfl⟩, by simpa only [PyData.shown] using q⟩
    | bl b => obtain rfl := rv; exact PySem.P.repr_of_bool ⟨.str _, H, I.tok _, ⟨_, rfl⟩, by simpa only [PyData.shown] using q⟩
    | int i =>
      obtain ⟨t, rfl⟩ := rv
      exact PySem.P.repr_of_int (by simpa [PyData.showable] using S.ok) ⟨.str _, H, I.tok _, ⟨_, rfl⟩, by simpa only [PyData.shown] using q⟩
    | str z =>
      obtain ⟨t, rfl⟩ := rv
      exact PySem.P.repr_of_str ⟨.str _, H, I.tok _, ⟨_, rfl⟩, by simpa only [PyData.shown] using q⟩ (by simpa only [PyData.shown] using S.sz)
    | lst h1 h2 => exact big (by exact rv)
    | tup h1 h2 => exact big (by exact rv)
end
end Ek

/-! Ek2: data as it lies in the heap; slots that own their lists. -/
namespace Ek
open PySem PySem.Spec PyProof.Rows L2

/-- data -/
inductive Dt where
  | non | bl (b : Bool) | int (i : Int) | str (x : Str)
  | tup (ds : List Dt) | lst (ds : List Dt) | sq (ds : List Dt) | obj (C : Addr) (ds : List Dt)
  | ty (n : String) | rf (a : Addr) | dk (ks : List Key) (ds : List Dt)
instance : Inhabited Dt := ⟨.non⟩

mutual
/-- v is the data d in H -/
inductive Dd (K : PySem.W.Frag) (H : Hp) : V → Dt → Prop
  | non : Dd K H .non .non
  | bl (b : Bool) : Dd K H (.bl b) (.bl b)
  | int (i : Int) : Dd K H (.int i) (.int i)
  | str (x : Str) : Dd K H (.str x) (.str x)
  | tup {a : Addr} {xs : List V} {ds : List Dt} : SqT K H a xs → DdAll K H xs ds → Dd K H (.ref a) (.tup ds)
  | lst {a : Addr} {xs : List V} {ds : List Dt} : H a = some (.lst xs) → DdAll K H xs ds → Dd K H (.ref a) (.lst ds)
  | sq {a : Addr} {xs : List V} {ds : List Dt} : SqL K H a xs → DdAll K H xs ds → Dd K H (.ref a) (.sq ds)
  | obj {a C dx : Addr} {xs : List V} {ds : List Dt} : H a = some (SlX.SlO a C dx (xs.map some)) → H dx = some (.xd []) → DdAll K H xs ds → Dd K H (.ref a) (.obj C ds)
  | ty (n : String) : Dd K H (.ty n) (.ty n)
  | rf (a : Addr) : Dd K H (.ref a) (.rf a)
  | dk {a : Addr} {xs : List V} {ks : List Key} {ds : List Dt} : H a = some (.dK (ks.zip xs)) → DdAll K H xs ds → Dd K H (.ref a) (.dk ks ds)
inductive DdAll (K : PySem.W.Frag) (H : Hp) : List V → List Dt → Prop
  | nil : DdAll K H [] []
  | cons {v : V} {vs : List V} {d : Dt} {ds : List Dt} : Dd K H v d → DdAll K H vs ds → DdAll K H (v :: vs) (d :: ds)
end

theorem sqT_mono {K : PySem.W.Frag} {H H' : Hp} {a : Addr} {xs : List V} (e : Same H H') (h : SqT K H a xs) : SqT K H' a xs := by
  rcases h with (h | ⟨o, h⟩) | h
  · exact .inl (.inl (e _ _ h))
  · exact .inl (.inr ⟨o, e _ _ h⟩)
  · exact .inr h

mutual
theorem Dd.mono {K : PySem.W.Frag} {H H' : Hp} (e : Same H H') : ∀ {v : V} {d : Dt}, Dd K H v d → Dd K H' v d
  | _, _, .non => .non
  | _, _, .bl b => .bl b
  | _, _, .int i => .int i
  | _, _, .str x => .str x
  | _, _, .tup h1 h2 => .tup (sqT_mono e h1) (DdAll.mono e h2)
  | _, _, .lst h1 h2 => .lst (e _ _ h1) (DdAll.mono e h2)
  | _, _, .sq h1 h2 => .sq (e.seq h1) (DdAll.mono e h2)
  | _, _, .obj h1 h2 h3 => .obj (e _ _ h1) (e _ _ h2) (DdAll.mono e h3)
  | _, _, .ty n => .ty n
  | _, _, .rf a => .rf a
  | _, _, .dk h1 h2 => .dk (e _ _ h1) (DdAll.mono e h2)
theorem DdAll.mono {K : PySem.W.Frag} {H H' : Hp} (e : Same H H') : ∀ {vs : List V} {ds : List Dt}, DdAll K H vs ds → DdAll K H' vs ds
  | _, _, .nil => .nil
  | _, _, .cons h1 h2 => .cons (Dd.mono e h1) (DdAll.mono e h2)
end
section
variable {K : PySem.W.Frag} {H : Hp}
theorem DdAll.length : ∀ {vs : List V} {ds : List Dt}, DdAll K H vs ds → vs.length = ds.length
  | _, _, .nil => rfl
  | _, _, .cons _ h => congrArg Nat.succ h.length
theorem DdAll.get : ∀ {vs : List V} {ds : List Dt} {i : Nat} {d : Dt}, DdAll K H vs ds → ds[i]? = some d → ∃ v, vs[i]? = some v ∧ Dd K H v d
  | _, _, _, _, .nil, e => by simp at e
  | _, _, 0, _, .cons h _, e => by simp at e; subst e; exact ⟨_, rfl, h⟩
  | _, _, i + 1, _, .cons _ h, e => by
    obtain ⟨v, a, b⟩ := DdAll.get (i := i) h (by simpa using e)
    exact ⟨v, by simpa using a, b⟩
theorem DdAll.getV : ∀ {vs : List V} {ds : List Dt} {i : Nat} {v : V}, DdAll K H vs ds → vs[i]? = some v → ∃ d, ds[i]? = some d ∧ Dd K H v d
  | _, _, _, _, .nil, e => by simp at e
  | _, _, 0, _, .cons h _, e => by simp at e; subst e; exact ⟨_, rfl, h⟩
  | _, _, i + 1, _, .cons _ h, e => by
    obtain ⟨v, a, b⟩ := DdAll.getV (i := i) h (by simpa using e)
    exact ⟨v, by simpa using a, b⟩
theorem DdAll.append : ∀ {vs ws : List V} {ds es : List Dt}, DdAll K H vs ds → DdAll K H ws es → DdAll K H (vs ++ ws) (ds ++ es)
  | _, _, _, _, .nil, s => s
  | _, _, _, _, .cons r t, s => .cons r (DdAll.append t s)
theorem DdAll.snoc {vs : List V} {ds : List Dt} {v : V} {d : Dt} (h : DdAll K H vs ds) (k : Dd K H v d) : DdAll K H (vs ++ [v]) (ds ++ [d]) := h.append (.cons k .nil)
theorem DdAll.set : ∀ {vs : List V} {ds : List Dt} {v : V} {d : Dt} (i : Nat), DdAll K H vs ds → Dd K H v d → DdAll K H (vs.set i v) (ds.set i d)
  | _, _, _, _, _, .nil, _ => .nil
  | _, _, _, _, 0, .cons _ h, k => .cons k h
  | _, _, _, _, i + 1, .cons g h, k => .cons g (DdAll.set i h k)
theorem DdAll.take : ∀ {vs : List V} {ds : List Dt} (n : Nat), DdAll K H vs ds → DdAll K H (vs.take n) (ds.take n)
  | _, _, 0, _ => .nil
  | _, _, _ + 1, .nil => .nil
  | _, _, n + 1, .cons r t => .cons r (DdAll.take n t)
theorem DdAll.drop : ∀ {vs : List V} {ds : List Dt} (n : Nat), DdAll K H vs ds → DdAll K H (vs.drop n) (ds.drop n)
  | _, _, 0, r => r
  | _, _, _ + 1, .nil => .nil
  | _, _, n + 1, .cons _ t => DdAll.drop n t
theorem DdAll.rev : ∀ {vs : List V} {ds : List Dt}, DdAll K H vs ds → DdAll K H vs.reverse ds.reverse
  | _, _, .nil => .nil
  | _, _, .cons r t => by
    rw [List.reverse_cons, List.reverse_cons]
    exact (DdAll.rev t).snoc r
theorem DdAll.rep {v : V} {d : Dt} (k : Dd K H v d) : ∀ n : Nat, DdAll K H (List.replicate n v) (List.replicate n d)
  | 0 => .nil
  | n + 1 => .cons k (DdAll.rep k n)
end

/-! ### the shown data -/
mutual
def Dt.py : Dt → Option PyData
  | .non => some .none
  | .bl b => some (.bool b)
  | .int i => some (.int i)
  | .str x => some (.str x)
  | .tup ds => (Dt.pyAll ds).map .tuple
  | .lst ds => (Dt.pyAll ds).map .list
  | .sq ds => (Dt.pyAll ds).map .list
  | .obj _ _ => none
  | .ty _ => none
  | .rf _ => none
  | .dk _ _ => none
def Dt.pyAll : List Dt → Option (List PyData)
  | [] => some []
  | d :: ds => match Dt.py d, Dt.pyAll ds with
    | some e, some es => some (e :: es)
    | _, _ => none
end
mutual
theorem Dd.dp {K : PySem.W.Frag} {H : Hp} : ∀ {v : V} {d : Dt} {e : PyData}, Dd K H v d → d.py = some e → Dp K H v e
  | _, _, _, .non, q => by simp only [Dt.py, Option.some.injEq] at q; subst q; exact .non
  | _, _, _, .bl b, q => by simp only [Dt.py, Option.some.injEq] at q; subst q; exact .bl b
  | _, _, _, .int i, q => by simp only [Dt.py, Option.some.injEq] at q; subst q; exact .int i
  | _, _, _, .str x, q => by simp only [Dt.py, Option.some.injEq] at q; subst q; exact .str x
  | _, _, _, .tup h1 h2, q => by
    simp only [Dt.py, Option.map_eq_some_iff] at q
    obtain ⟨es, q1, q2⟩ := q
    subst q2
    exact .tup h1 (DdAll.dp h2 q1)
  | _, _, _, .lst h1 h2, q => by
    simp only [Dt.py, Option.map_eq_some_iff] at q
    obtain ⟨es, q1, q2⟩ := q
    subst q2
    exact .lst (SqL.of h1) (DdAll.dp h2 q1)
  | _, _, _, .sq h1 h2, q => by
    simp only [Dt.py, Option.map_eq_some_iff] at q
    obtain ⟨es, q1, q2⟩ := q
    subst q2
    exact .lst h1 (DdAll.dp h2 q1)
  | _, _, _, .obj _ _ _, q => by simp only [Dt.py] at q; cases q
  | _, _, _, .ty _, q => by simp only [Dt.py] at q; cases q
  | _, _, _, .rf _, q => by simp only [Dt.py] at q; cases q
  | _, _, _, .dk _ _, q => by simp only [Dt.py] at q; cases q
theorem DdAll.dp {K : PySem.W.Frag} {H : Hp} : ∀ {vs : List V} {ds : List Dt} {es : List PyData}, DdAll K H vs ds → Dt.pyAll ds = some es → DpAll K H vs es
  | _, _, _, .nil, q => by simp only [Dt.pyAll, Option.some.injEq] at q; subst q; exact .nil
  | _, _, _, .cons (d := d) (ds := ds) h1 h2, q => by
    simp only [Dt.pyAll] at q
    cases e1 : Dt.py d with
    | none => rw [e1] at q; cases q
    | some x =>
      cases e2 : Dt.pyAll ds with
      | none => rw [e1, e2] at q; cases q
      | some xs =>
        rw [e1, e2] at q
        simp only [Option.some.injEq] at q
        subst q
        exact .cons (Dd.dp h1 e1) (DdAll.dp h2 e2)
end

/-! ### slots -/
inductive Sl where
  | un | im (d : Dt) | ls (ds : List Dt) | ln (k : Nat) (ds : List Dt) | mt (rows : List (List Dt))

/-- the entry of a def: what is frozen, the heap, the cells that are lent -/
structure Wd where
  F0 : Hp
  H0 : Hp
  A : Nat → Option Addr
def Wd.A0 (W : Wd) (a : Addr) : Prop := ∃ k, W.A k = some a

abbrev Ix := Sum Nat Nat
def cell (σ : L2.St) (δ : List Sl) (pd : List (V × Sl)) : Ix → Option V × Sl
  | .inl i => ((σ[i]?).getD none, (δ[i]?).getD .un)
  | .inr k => match pd[k]? with
    | some (v, s) => (some v, s)
    | none => (none, .un)

def Sl.lsts : Sl → Option (List Dt)
  | .ls ds => some ds
  | .ln _ ds => some ds
  | _ => none
def Sl.put (ds : List Dt) : Sl → Sl
  | .ls _ => .ls ds
  | .ln k _ => .ln k ds
  | s => s
/-- what it is once frozen -/
def Sl.frd : Sl → Option Dt
  | .im d => some d
  | .ls ds => some (.lst ds)
  | .mt rows => some (.lst (rows.map .lst))
  | _ => none
def Sl.own : Sl → Bool
  | .ls _ => true
  | .ln _ _ => true
  | .mt _ => true
  | _ => false

inductive Rws (K : PySem.W.Frag) (F H : Hp) : List Addr → List (List Dt) → Prop
  | nil : Rws K F H [] []
  | cons {b : Addr} {bs : List Addr} {ds : List Dt} {rows : List (List Dt)} (xs : List V) : H b = some (.lst xs) → DdAll K F xs ds → Rws K F H bs rows → Rws K F H (b :: bs) (ds :: rows)

def OwnS (K : PySem.W.Frag) (W : Wd) (F H : Hp) (o : Option V) (as : List Addr) : Sl → Prop
  | .un => as = []
  | .im d => as = [] ∧ ∃ v, o = some v ∧ Dd K F v d
  | .ls ds => ∃ p xs, o = some (.ref p) ∧ as = [p] ∧ H p = some (.lst xs) ∧ DdAll K F xs ds ∧ ¬ W.A0 p
  | .ln k ds => ∃ p xs, o = some (.ref p) ∧ as = [p] ∧ H p = some (.lst xs) ∧ DdAll K F xs ds ∧ W.A k = some p
  | .mt rows => ∃ p bs, o = some (.ref p) ∧ as = p :: bs ∧ H p = some (.lst (bs.map .ref)) ∧ Rws K F H bs rows ∧ ∀ a ∈ p :: bs, ¬ W.A0 a

structure Wk (W : Wd) (F H : Hp) (ow : Addr → Prop) : Prop where
  FH : Same F H
  F0 : Same W.F0 F
  frm : ∀ a o, W.H0 a = some o → ¬ W.A0 a → H a = some o
  fsh : ∀ a, F a ≠ none → W.F0 a ≠ none ∨ W.H0 a = none
  dom : ∀ a, W.A0 a → H a ≠ none
  nF : ∀ a, ow a → F a = none
  old : ∀ a, ow a → W.A0 a ∨ W.H0 a = none

structure SatA (K : PySem.W.Frag) (W : Wd) (F H : Hp) (σ : L2.St) (δ : List Sl) (pd : List (V × Sl)) (ad : Ix → List Addr) : Prop where
  len : δ.length = σ.length
  own : ∀ x, OwnS K W F H (cell σ δ pd x).1 (ad x) (cell σ δ pd x).2
  dis : ∀ x y a, a ∈ ad x → a ∈ ad y → x = y
  nod : ∀ x, (ad x).Nodup
  wk : Wk W F H fun a => ∃ x, a ∈ ad x

def Sat (K : PySem.W.Frag) (W : Wd) (F H : Hp) (σ : L2.St) (δ : List Sl) (pd : List (V × Sl)) : Prop := ∃ ad, SatA K W F H σ δ pd ad

/-! #### the worlds -/
section
variable {W : Wd} {F H : Hp} {ow ow' : Addr → Prop} {p : Addr} {u : HO}
theorem same_upd {H : Hp} {p : Addr} {o : HO} (h : H p = none) : Same H (upd H p o) := fun b x e => by
  rw [upd_ne (ne_of_none e h)]
  exact e
theorem same_upd2 {F H : Hp} {p : Addr} {o : HO} (s : Same F H) (h : F p = none) : Same F (upd H p o) := fun b x e => by
  rw [upd_ne (ne_of_none e h)]
  exact s _ _ e
theorem same_both {F H : Hp} {p : Addr} {o : HO} (s : Same F H) : Same (upd F p o) (upd H p o) := fun b x e => by
  by_cases hb : b = p
  · subst hb; rw [upd_same] at e ⊢; exact e
  · rw [upd_ne hb] at e ⊢; exact s _ _ e
theorem Wk.mono (h : Wk W F H ow) (s : ∀ a, ow' a → ow a) : Wk W F H ow' := ⟨h.FH, h.F0, h.frm, h.fsh, h.dom, fun a z => h.nF a (s a z), fun a z => h.old a (s a z)⟩
theorem Wk.fresh (h : Wk W F H ow) (hp : H p = none) : W.H0 p = none ∧ F p = none ∧ ¬ W.A0 p := by
  have na : ¬ W.A0 p := fun z => h.dom p z hp
  refine ⟨?_, ?_, na⟩
  · cases e : W.H0 p with
    | none => rfl
    | some o =>
      have z := h.frm p o e na
      rw [hp] at z; cases z
  · exact h.FH.free hp
/-- a new cell of one's own -/
theorem Wk.new (h : Wk W F H ow) (hp : H p = none) (s : ∀ a, ow' a → ow a ∨ a = p) : Wk W F (upd H p u) ow' := by
  obtain ⟨f1, f2, f3⟩ := h.fresh hp
  refine ⟨same_upd2 h.FH f2, h.F0, fun a o e na => ?_, h.fsh, fun a z => ?_, fun a z => ?_, fun a z => ?_⟩
  · have ne : a ≠ p := fun q => by rw [q, f1] at e; cases e
    rw [upd_ne ne]; exact h.frm a o e na
  · have ne : a ≠ p := fun q => f3 (q ▸ z)
    rw [upd_ne ne]; exact h.dom a z
  · rcases s a z with q | q
    · exact h.nF a q
    · rw [q]; exact f2
  · rcases s a z with q | q
    · exact h.old a q
    · rw [q]; exact .inr f1
/-- a new frozen cell -/
theorem Wk.newF (h : Wk W F H ow) (hp : H p = none) (no : ¬ ow p) : Wk W (upd F p u) (upd H p u) ow := by
  obtain ⟨f1, f2, f3⟩ := h.fresh hp
  refine ⟨same_both h.FH, h.F0.trans (same_upd f2), fun a o e na => ?_, fun a z => ?_, fun a z => ?_, fun a z => ?_, h.old⟩
  · have ne : a ≠ p := fun q => by rw [q, f1] at e; cases e
    rw [upd_ne ne]; exact h.frm a o e na
  · by_cases q : a = p
    · rw [q]; exact .inr f1
    · rw [upd_ne q] at z; exact h.fsh a z
  · have ne : a ≠ p := fun q => f3 (q ▸ z)
    rw [upd_ne ne]; exact h.dom a z
  · have ne : a ≠ p := fun q => no (q ▸ z)
    rw [upd_ne ne]; exact h.nF a z
/-- an own cell is written -/
theorem Wk.put (h : Wk W F H ow) (ho : ow p) : Wk W F (upd H p u) ow := by
  refine ⟨same_upd2 h.FH (h.nF p ho), h.F0, fun a o e na => ?_, h.fsh, fun a z => ?_, h.nF, h.old⟩
  · have ne : a ≠ p := fun q => by
      subst q
      rcases h.old a ho with z | z
      · exact na z
      · rw [z] at e; cases e
    rw [upd_ne ne]; exact h.frm a o e na
  · by_cases q : a = p
    · rw [q, upd_same]; intro z; cases z
    · rw [upd_ne q]; exact h.dom a z
/-- an own cell, not lent, is frozen -/
theorem Wk.frz (h : Wk W F H ow) (ho : ow p) (hp : H p = some u) (na : ¬ W.A0 p) (s : ∀ a, ow' a → ow a ∧ a ≠ p) : Wk W (upd F p u) H ow' := by
  have f1 : W.H0 p = none := (h.old p ho).resolve_left na
  refine ⟨fun b x e => ?_, h.F0.trans (same_upd (h.nF p ho)), h.frm, fun a z => ?_, h.dom, fun a z => ?_, fun a z => h.old a (s a z).1⟩
  · by_cases q : b = p
    · rw [q, upd_same] at e; rw [q, hp]; exact e
    · rw [upd_ne q] at e; exact h.FH b x e
  · by_cases q : a = p
    · rw [q]; exact .inr f1
    · rw [upd_ne q] at z; exact h.fsh a z
  · rw [upd_ne (s a z).2]; exact h.nF a (s a z).1
end

/-! #### the cells -/
section
variable {K : PySem.W.Frag} {W : Wd} {F H F' H' : Hp} {σ σ' : L2.St} {δ δ' : List Sl} {pd pd' : List (V × Sl)} {ad : Ix → List Addr} {v : V} {s : Sl}
theorem Rws.keep (sF : Same F F') : ∀ {bs : List Addr} {rows : List (List Dt)}, Rws K F H bs rows → (∀ a ∈ bs, H' a = H a) → Rws K F' H' bs rows
  | _, _, .nil, _ => .nil
  | _, _, .cons xs h1 h2 h3, k => .cons xs ((k _ (List.mem_cons_self ..)).trans h1) (h2.mono sF) (Rws.keep sF h3 fun a ha => k a (List.mem_cons_of_mem _ ha))
theorem OwnS.keep {o : Option V} {as : List Addr} {s : Sl} (h : OwnS K W F H o as s) (sF : Same F F') (k : ∀ a ∈ as, H' a = H a) : OwnS K W F' H' o as s := by
  cases s with
  | un => exact h
  | im d => obtain ⟨e, v, e2, q⟩ := h; exact ⟨e, v, e2, q.mono sF⟩
  | ls ds => obtain ⟨p, xs, e, rfl, e2, q, n⟩ := h; exact ⟨p, xs, e, rfl, (k p (List.mem_cons_self ..)).trans e2, q.mono sF, n⟩
  | ln j ds => obtain ⟨p, xs, e, rfl, e2, q, n⟩ := h; exact ⟨p, xs, e, rfl, (k p (List.mem_cons_self ..)).trans e2, q.mono sF, n⟩
  | mt rows => obtain ⟨p, bs, e, rfl, e2, q, n⟩ := h; exact ⟨p, bs, e, rfl, (k p (List.mem_cons_self ..)).trans e2, q.keep sF fun a ha => k a (List.mem_cons_of_mem _ ha), n⟩
/-- one cell is changed, some are forgotten -/
theorem SatA.change (h : SatA K W F H σ δ pd ad) (x0 : Ix) (as0 : List Addr) (hl : δ'.length = σ'.length)
    (hc : ∀ x, x ≠ x0 → cell σ' δ' pd' x = cell σ δ pd x ∨ (cell σ' δ' pd' x).2 = .un)
    (own0 : OwnS K W F' H' (cell σ' δ' pd' x0).1 as0 (cell σ' δ' pd' x0).2)
    (stay : ∀ x, x ≠ x0 → cell σ' δ' pd' x = cell σ δ pd x → ∀ a ∈ ad x, a ∉ as0 ∧ H' a = H a) (sF : Same F F') (nod0 : as0.Nodup)
    (wk : Wk W F' H' fun a => a ∈ as0 ∨ ∃ x, x ≠ x0 ∧ cell σ' δ' pd' x = cell σ δ pd x ∧ a ∈ ad x) : Sat K W F' H' σ' δ' pd' := by
  classical
  have q : ∀ x a, a ∈ (if x = x0 then as0 else if cell σ' δ' pd' x = cell σ δ pd x then ad x else []) → (x = x0 ∧ a ∈ as0) ∨ (x ≠ x0 ∧ cell σ' δ' pd' x = cell σ δ pd x ∧ a ∈ ad x) := fun x a ha => by
    by_cases e : x = x0
    · rw [if_pos e] at ha; exact .inl ⟨e, ha⟩
    · rw [if_neg e] at ha
      by_cases e2 : cell σ' δ' pd' x = cell σ δ pd x
      · rw [if_pos e2] at ha; exact .inr ⟨e, e2, ha⟩
      · rw [if_neg e2] at ha; cases ha
  refine ⟨fun x => if x = x0 then as0 else if cell σ' δ' pd' x = cell σ δ pd x then ad x else [], hl, fun x => ?_, fun x y a ha hb => ?_, fun x => ?_, wk.mono fun a ⟨x, hx⟩ => ?_⟩
  · by_cases e : x = x0
    · subst e; simp only [if_pos]; exact own0
    · simp only [if_neg e]
      by_cases e2 : cell σ' δ' pd' x = cell σ δ pd x
      · rw [if_pos e2, e2]
        exact (h.own x).keep sF fun a ha => (stay x e e2 a ha).2
      · rw [if_neg e2]
        rcases hc x e with z | z
        · exact absurd z e2
        · rw [z]; rfl
  · rcases q x a ha with ⟨e1, m1⟩ | ⟨e1, k1, m1⟩ <;> rcases q y a hb with ⟨e2, m2⟩ | ⟨e2, k2, m2⟩
    · rw [e1, e2]
    · exact absurd m1 (stay y e2 k2 a m2).1
    · exact absurd m2 (stay x e1 k1 a m1).1
    · exact h.dis x y a m1 m2
  · by_cases e : x = x0
    · simp only [if_pos e]; exact nod0
    · simp only [if_neg e]
      by_cases e2 : cell σ' δ' pd' x = cell σ δ pd x
      · rw [if_pos e2]; exact h.nod x
      · rw [if_neg e2]; exact List.nodup_nil
  · rcases q x a hx with ⟨_, m⟩ | ⟨e, k, m⟩
    · exact .inl m
    · exact .inr ⟨x, e, k, m⟩
theorem cell_push {x : V × Sl} : cell σ δ (pd ++ [x]) (.inr pd.length) = (some x.1, x.2) := by
  show (match (pd ++ [x])[pd.length]? with | some (v, s) => (some v, s) | none => (none, .un)) = _
  rw [List.getElem?_append_right (Nat.le_refl _), Nat.sub_self]
  rfl
theorem cell_push_ne {x : V × Sl} {y : Ix} (h : y ≠ .inr pd.length) : cell σ δ (pd ++ [x]) y = cell σ δ pd y := by
  cases y with
  | inl i => rfl
  | inr k =>
    have hk : k ≠ pd.length := fun e => h (by rw [e])
    show (match (pd ++ [x])[k]? with | some (v, s) => (some v, s) | none => (none, .un)) = (match pd[k]? with | some (v, s) => (some v, s) | none => (none, .un))
    by_cases h1 : k < pd.length
    · rw [List.getElem?_append_left h1]
    · rw [List.getElem?_append_right (by omega), List.getElem?_eq_none (l := pd) (by omega), List.getElem?_eq_none (by simp; omega)]
theorem cell_end : cell σ δ pd (.inr pd.length) = (none, .un) := by
  show (match pd[pd.length]? with | some (v, s) => (some v, s) | none => (none, .un)) = _
  rw [List.getElem?_eq_none (Nat.le_refl _)]
theorem SatA.ad_end (h : SatA K W F H σ δ pd ad) : ad (.inr pd.length) = [] := by
  have := h.own (.inr pd.length)
  rw [cell_end] at this
  exact this
/-- a value is pushed -/
theorem Sat.push (h : Sat K W F H σ δ pd) {v : V} {s : Sl} {as0 : List Addr} (own0 : OwnS K W F' H' (some v) as0 s) (sF : Same F F') (nod0 : as0.Nodup)
    (stay : ∀ ad, SatA K W F H σ δ pd ad → (∀ x a, a ∈ ad x → a ∉ as0 ∧ H' a = H a) ∧ Wk W F' H' fun a => a ∈ as0 ∨ ∃ x, a ∈ ad x) : Sat K W F' H' σ δ (pd ++ [(v, s)]) := by
  obtain ⟨ad, h⟩ := h
  obtain ⟨s1, s2⟩ := stay ad h
  refine h.change (.inr pd.length) as0 h.len (fun x hx => .inl (cell_push_ne hx)) ?_ (fun x _ _ a ha => s1 x a ha) sF nod0 (s2.mono fun a ha => ?_)
  · rw [cell_push]; exact own0
  · rcases ha with z | ⟨x, _, _, z⟩
    · exact .inl z
    · exact .inr ⟨x, z⟩
theorem Sat.pushIm (h : Sat K W F H σ δ pd) {v : V} {d : Dt} (hd : Dd K F v d) : Sat K W F H σ δ (pd ++ [(v, .im d)]) :=
  h.push (as0 := []) ⟨rfl, v, rfl, hd⟩ (Same.refl _) List.nodup_nil fun ad hA => ⟨fun x a _ => ⟨by simp, rfl⟩, hA.wk.mono fun a ha => by
    rcases ha with z | z
    · cases z
    · exact z⟩
theorem Sat.pushUn (h : Sat K W F H σ δ pd) (v : V) : Sat K W F H σ δ (pd ++ [(v, .un)]) :=
  h.push (as0 := []) rfl (Same.refl _) List.nodup_nil fun ad hA => ⟨fun x a _ => ⟨by simp, rfl⟩, hA.wk.mono fun a ha => by
    rcases ha with z | z
    · cases z
    · exact z⟩
theorem SatA.neq (h : SatA K W F H σ δ pd ad) {p : Addr} (hp : H p = none) : ∀ x a, a ∈ ad x → a ≠ p := fun x a ha e => by
  subst e
  have o := h.own x
  cases hs : (cell σ δ pd x).2 with
  | un => rw [hs] at o; rw [show ad x = [] from o] at ha; cases ha
  | im d => rw [hs] at o; rw [o.1] at ha; cases ha
  | ls ds =>
    rw [hs] at o
    obtain ⟨p, xs, _, e, e2, _⟩ := o
    rw [e] at ha
    simp only [List.mem_singleton] at ha
    rw [ha, e2] at hp; cases hp
  | ln k ds =>
    rw [hs] at o
    obtain ⟨p, xs, _, e, e2, _⟩ := o
    rw [e] at ha
    simp only [List.mem_singleton] at ha
    rw [ha, e2] at hp; cases hp
  | mt rows =>
    rw [hs] at o
    obtain ⟨p, bs, _, e, e2, r, _⟩ := o
    rw [e] at ha
    rcases List.mem_cons.mp ha with z | z
    · rw [z, e2] at hp; cases hp
    · have : ∀ {bs : List Addr} {rows : List (List Dt)}, Rws K F H bs rows → a ∈ bs → False := fun {bs rows} r => by
        induction r with
        | nil => intro z; cases z
        | cons xs h1 _ _ ih =>
          intro z
          rcases List.mem_cons.mp z with z | z
          · rw [z, h1] at hp; cases hp
          · exact ih z
      exact this r z
/-- a new list -/
theorem Sat.newLs (h : Sat K W F H σ δ pd) {p : Addr} {xs : List V} {ds : List Dt} (hp : H p = none) (hd : DdAll K F xs ds) : Sat K W F (upd H p (.lst xs)) σ δ (pd ++ [(.ref p, .ls ds)]) :=
  have na : ¬ W.A0 p := by
    obtain ⟨ad, hA⟩ := h
    exact (hA.wk.fresh hp).2.2
  h.push (as0 := [p]) ⟨p, xs, rfl, rfl, upd_same, hd, na⟩ (Same.refl _) (by simp) fun ad hA => ⟨fun x a ha => ⟨by simpa using hA.neq hp x a ha, upd_ne (hA.neq hp x a ha)⟩, hA.wk.new hp fun a ha => by
    rcases ha with z | z
    · exact .inr (by simpa using z)
    · exact .inl z⟩
/-- a new tuple -/
theorem Sat.newT (h : Sat K W F H σ δ pd) {p : Addr} {xs : List V} {ds : List Dt} (hp : H p = none) (hd : DdAll K F xs ds) :
    Sat K W (upd F p (.tup xs)) (upd H p (.tup xs)) σ δ (pd ++ [(.ref p, .im (.tup ds))]) ∧ Same F (upd F p (.tup xs)) := by
  have hF : F p = none := by
    obtain ⟨ad, hA⟩ := h
    exact (hA.wk.fresh hp).2.1
  refine ⟨h.push (as0 := []) ⟨rfl, _, rfl, .tup (SqT.of upd_same) (hd.mono (same_upd hF))⟩ (same_upd hF) List.nodup_nil fun ad hA => ?_, same_upd hF⟩
  refine ⟨fun x a ha => ⟨by simp, upd_ne (hA.neq hp x a ha)⟩, ?_⟩
  exact (hA.wk.newF hp fun ⟨x, hx⟩ => hA.neq hp x p hx rfl).mono fun a ha => by
    rcases ha with z | z
    · cases z
    · exact z
/-- the last values are forgotten -/
theorem Sat.drop (h : Sat K W F H σ δ (pd ++ pd')) : Sat K W F H σ δ pd := by
  obtain ⟨ad, h⟩ := h
  refine h.change (.inr (pd ++ pd').length) [] h.len (fun x hx => ?_) ?_ (fun x _ _ a _ => ⟨by simp, rfl⟩) (Same.refl _) List.nodup_nil (h.wk.mono fun a ha => ?_)
  · cases x with
    | inl i => exact .inl rfl
    | inr k =>
      by_cases hk : k < pd.length
      · left
        show (match pd[k]? with | some (v, s) => (some v, s) | none => (none, .un)) = (match (pd ++ pd')[k]? with | some (v, s) => (some v, s) | none => (none, .un))
        rw [List.getElem?_append_left hk]
      · right
        show (match pd[k]? with | some (v, s) => (some v, s) | none => (none, .un) : Option V × Sl).2 = .un
        rw [List.getElem?_eq_none (by omega)]
  · show OwnS K W F H (match pd[(pd ++ pd').length]? with | some (v, s) => (some v, s) | none => (none, .un) : Option V × Sl).1 [] (match pd[(pd ++ pd').length]? with | some (v, s) => (some v, s) | none => (none, .un) : Option V × Sl).2
    rw [List.getElem?_eq_none (by simp)]
    rfl
  · rcases ha with z | ⟨x, _, _, z⟩
    · cases z
    · exact ⟨x, z⟩
/-- the last value goes into a slot -/
theorem Sat.assign (h : Sat K W F H σ δ (pd ++ [(v, s)])) {i : Nat} (hi : i < δ.length) : Sat K W F H (σ.set i (some v)) (δ.set i s) pd := by
  obtain ⟨ad, h⟩ := h
  have hi2 : i < σ.length := by rw [← h.len]; exact hi
  have c0 : cell (σ.set i (some v)) (δ.set i s) pd (.inl i) = (some v, s) := by
    show (((σ.set i (some v))[i]?).getD none, ((δ.set i s)[i]?).getD .un) = _
    rw [List.getElem?_set_self hi, List.getElem?_set_self hi2]; rfl
  have cn : ∀ j, j ≠ i → cell (σ.set i (some v)) (δ.set i s) pd (.inl j) = cell σ δ (pd ++ [(v, s)]) (.inl j) := fun j hj => by
    show (((σ.set i (some v))[j]?).getD none, ((δ.set i s)[j]?).getD .un) = ((σ[j]?).getD none, (δ[j]?).getD .un)
    rw [List.getElem?_set_ne (Ne.symm hj), List.getElem?_set_ne (Ne.symm hj)]
  have cp : cell σ δ (pd ++ [(v, s)]) (.inr pd.length) = (some v, s) := cell_push
  have oP : OwnS K W F H (some v) (ad (.inr pd.length)) s := by
    have z := h.own (.inr pd.length)
    rw [cp] at z; exact z
  have key : ∀ k, cell (σ.set i (some v)) (δ.set i s) pd (.inr k) = cell σ δ (pd ++ [(v, s)]) (.inr k) ∨ (k = pd.length ∧ cell (σ.set i (some v)) (δ.set i s) pd (.inr k) = (none, .un)) := fun k => by
    by_cases e : k = pd.length
    · exact .inr ⟨e, by rw [e]; exact cell_end⟩
    · left
      have z : cell σ δ (pd ++ [(v, s)]) (.inr k) = cell σ δ pd (.inr k) := cell_push_ne fun z => e (Sum.inr.inj z)
      rw [z]; rfl
  refine h.change (.inl i) (ad (.inr pd.length)) (by rw [List.length_set, List.length_set]; exact h.len) (fun x hx => ?_) ?_ (fun x hx hk a ha => ⟨fun hb => ?_, rfl⟩) (Same.refl _) (h.nod _) (h.wk.mono fun a ha => ?_)
  · cases x with
    | inl j => exact .inl (cn j fun e => hx (by rw [e]))
    | inr k =>
      rcases key k with z | ⟨_, z⟩
      · exact .inl z
      · exact .inr (by rw [z])
  · rw [c0]; exact oP
  · have e := h.dis x _ a ha hb
    subst e
    rw [cp] at hk
    have : cell (σ.set i (some v)) (δ.set i s) pd (.inr pd.length) = (none, .un) := cell_end
    rw [this] at hk
    cases hk
  · rcases ha with z | ⟨x, _, _, z⟩
    · exact ⟨_, z⟩
    · exact ⟨x, z⟩
/-- the list of a slot is written -/
theorem Sat.putSlot (h : Sat K W F H σ δ pd) {i : Nat} {p : Addr} {ds : List Dt} (e : δ[i]? = some s) (hs : s.lsts = some ds) (hp : σ[i]? = some (some (.ref p))) :
    ∃ xs, H p = some (.lst xs) ∧ DdAll K F xs ds ∧ ∀ xs' ds', DdAll K F xs' ds' → Sat K W F (upd H p (.lst xs')) σ (δ.set i (s.put ds')) pd := by
  obtain ⟨ad, h⟩ := h
  have hi : i < δ.length := (List.getElem?_eq_some_iff.mp e).1
  have c0 : cell σ δ pd (.inl i) = (some (.ref p), s) := by
    show ((σ[i]?).getD none, (δ[i]?).getD .un) = _
    rw [e, hp]; rfl
  have o := h.own (.inl i)
  rw [c0] at o
  have key : ∃ xs, ad (.inl i) = [p] ∧ H p = some (.lst xs) ∧ DdAll K F xs ds ∧ ∀ H' xs' ds', H' p = some (.lst xs') → DdAll K F xs' ds' → OwnS K W F H' (some (.ref p)) [p] (s.put ds') := by
    cases s with
    | ls es =>
      obtain ⟨q, xs, e1, e2, e3, e4, e5⟩ := o
      cases e1; cases hs
      exact ⟨xs, e2, e3, e4, fun H' xs' ds' a b => ⟨p, xs', rfl, rfl, a, b, e5⟩⟩
    | ln k es =>
      obtain ⟨q, xs, e1, e2, e3, e4, e5⟩ := o
      cases e1; cases hs
      exact ⟨xs, e2, e3, e4, fun H' xs' ds' a b => ⟨p, xs', rfl, rfl, a, b, e5⟩⟩
    | un => cases hs
    | im d => cases hs
    | mt rows => cases hs
  obtain ⟨xs, k1, k2, k3, k4⟩ := key
  refine ⟨xs, k2, k3, fun xs' ds' hd => ?_⟩
  have c1 : cell σ (δ.set i (s.put ds')) pd (.inl i) = (some (.ref p), s.put ds') := by
    show ((σ[i]?).getD none, ((δ.set i (s.put ds'))[i]?).getD .un) = _
    rw [List.getElem?_set_self hi, hp]; rfl
  have cn : ∀ x, x ≠ .inl i → cell σ (δ.set i (s.put ds')) pd x = cell σ δ pd x := fun x hx => by
    cases x with
    | inl j =>
      have hj : j ≠ i := fun z => hx (by rw [z])
      show ((σ[j]?).getD none, ((δ.set i (s.put ds'))[j]?).getD .un) = ((σ[j]?).getD none, (δ[j]?).getD .un)
      rw [List.getElem?_set_ne (Ne.symm hj)]
    | inr k => rfl
  refine h.change (.inl i) [p] (by rw [List.length_set]; exact h.len) (fun x hx => .inl (cn x hx)) ?_ (fun x hx _ a ha => ?_) (Same.refl _) (by simp) ?_
  · rw [c1]; exact k4 _ _ _ upd_same hd
  · have ne : a ≠ p := fun z => by
      subst z
      exact hx (h.dis x (.inl i) a ha (by rw [k1]; simp))
    exact ⟨by simpa using ne, upd_ne ne⟩
  · refine (h.wk.put (p := p) ⟨.inl i, by rw [k1]; simp⟩).mono fun a ha => ?_
    rcases ha with z | ⟨x, _, _, z⟩
    · exact ⟨.inl i, by rw [k1]; exact z⟩
    · exact ⟨x, z⟩
/-- some own cells are frozen -/
noncomputable def frzH (F H : Hp) (as : List Addr) : Hp := fun a => if a ∈ as then H a else F a
theorem frzH_in {as : List Addr} {a : Addr} (h : a ∈ as) : frzH F H as a = H a := if_pos h
theorem frzH_out {as : List Addr} {a : Addr} (h : a ∉ as) : frzH F H as a = F a := if_neg h
theorem Rws.dd (sF : Same F H) : ∀ {bs : List Addr} {rows : List (List Dt)}, Rws K F H bs rows → DdAll K H (bs.map .ref) (rows.map .lst)
  | _, _, .nil => .nil
  | _, _, .cons xs h1 h2 h3 => .cons (.lst h1 (h2.mono sF)) (Rws.dd sF h3)
theorem Rws.frz {G : Hp} (sF : Same F G) : ∀ {bs : List Addr} {rows : List (List Dt)}, Rws K F H bs rows → (∀ a ∈ bs, G a = H a) → DdAll K G (bs.map .ref) (rows.map .lst)
  | _, _, .nil, _ => .nil
  | _, _, .cons xs h1 h2 h3, k => .cons (.lst ((k _ (List.mem_cons_self ..)).trans h1) (h2.mono sF)) (Rws.frz sF h3 fun a ha => k a (List.mem_cons_of_mem _ ha))
/-- a cell of one's own (not lent) becomes data -/
theorem SatA.frz (h : SatA K W F H σ δ pd ad) (x0 : Ix) {d : Dt} (hs : (cell σ δ pd x0).2.frd = some d) (hl : δ'.length = σ.length)
    (c0 : cell σ δ' pd' x0 = ((cell σ δ pd x0).1, .im d)) (cn : ∀ x, x ≠ x0 → cell σ δ' pd' x = cell σ δ pd x) : ∃ F', Same F F' ∧ Sat K W F' H σ δ' pd' := by
  have o := h.own x0
  have key : (∀ a ∈ ad x0, ¬ W.A0 a) ∧ ∃ v, (cell σ δ pd x0).1 = some v ∧ ∀ G, Same F G → (∀ a ∈ ad x0, G a = H a) → Dd K G v d := by
    generalize hc : cell σ δ pd x0 = c at o hs
    obtain ⟨ov, s⟩ := c
    cases s with
    | un => cases hs
    | im e =>
      obtain ⟨e1, v, e2, q⟩ := o
      cases hs
      refine ⟨fun a ha => ?_, v, e2, fun G sG _ => q.mono sG⟩
      rw [e1] at ha; cases ha
    | ls ds =>
      obtain ⟨p, xs, e1, e2, e3, e4, e5⟩ := o
      cases hs
      refine ⟨fun a ha => ?_, _, e1, fun G sG k => .lst ((k p (by rw [e2]; simp)).trans e3) (e4.mono sG)⟩
      rw [e2] at ha
      have : a = p := by simpa using ha
      rw [this]; exact e5
    | ln k ds => cases hs
    | mt rows =>
      obtain ⟨p, bs, e1, e2, e3, e4, e5⟩ := o
      cases hs
      refine ⟨fun a ha => e5 a (by rw [e2] at ha; exact ha), _, e1, fun G sG k => .lst ((k p (by rw [e2]; simp)).trans e3) (e4.frz sG fun a ha => k a (by rw [e2]; exact List.mem_cons_of_mem _ ha))⟩
  obtain ⟨kA, v, kv, kd⟩ := key
  have sF : Same F (frzH F H (ad x0)) := fun b x e => by
    by_cases hb : b ∈ ad x0
    · rw [h.wk.nF b ⟨x0, hb⟩] at e; cases e
    · rw [frzH_out hb]; exact e
  refine ⟨frzH F H (ad x0), sF, h.change x0 [] hl (fun x hx => .inl (cn x hx)) ?_ (fun x hx _ a ha => ⟨by simp, rfl⟩) sF List.nodup_nil ?_⟩
  · rw [c0]
    exact ⟨rfl, v, kv, kd _ sF fun a ha => frzH_in ha⟩
  · have w := h.wk
    refine ⟨fun b x e => ?_, w.F0.trans sF, w.frm, fun a z => ?_, w.dom, fun a z => ?_, fun a z => ?_⟩
    · by_cases hb : b ∈ ad x0
      · rw [frzH_in hb] at e; exact e
      · rw [frzH_out hb] at e; exact w.FH b x e
    · by_cases hb : a ∈ ad x0
      · exact .inr ((w.old a ⟨x0, hb⟩).resolve_left (kA a hb))
      · rw [frzH_out hb] at z; exact w.fsh a z
    · rcases z with z | ⟨x, hx, _, z⟩
      · cases z
      · rw [frzH_out fun hb => hx (h.dis x x0 a z hb)]
        exact w.nF a ⟨x, z⟩
    · rcases z with z | ⟨x, hx, _, z⟩
      · cases z
      · exact w.old a ⟨x, z⟩
theorem Sat.frzSlot (h : Sat K W F H σ δ pd) {i : Nat} {d : Dt} (e : δ[i]? = some s) (hs : s.frd = some d) : ∃ F', Same F F' ∧ Sat K W F' H σ (δ.set i (.im d)) pd := by
  obtain ⟨ad, h⟩ := h
  have hi : i < δ.length := (List.getElem?_eq_some_iff.mp e).1
  refine h.frz (.inl i) (d := d) ?_ (by rw [List.length_set]; exact h.len) ?_ fun x hx => ?_
  · show ((δ[i]?).getD .un).frd = some d
    rw [e]; exact hs
  · show ((σ[i]?).getD none, ((δ.set i (.im d))[i]?).getD .un) = _
    rw [List.getElem?_set_self hi]; rfl
  · cases x with
    | inl j =>
      have hj : j ≠ i := fun z => hx (by rw [z])
      show ((σ[j]?).getD none, ((δ.set i (.im d))[j]?).getD .un) = ((σ[j]?).getD none, (δ[j]?).getD .un)
      rw [List.getElem?_set_ne (Ne.symm hj)]
    | inr k => rfl
theorem Sat.frzPd (h : Sat K W F H σ δ pd) {k : Nat} {d : Dt} (e : pd[k]? = some (v, s)) (hs : s.frd = some d) : ∃ F', Same F F' ∧ Sat K W F' H σ δ (pd.set k (v, .im d)) := by
  obtain ⟨ad, h⟩ := h
  have hk : k < pd.length := (List.getElem?_eq_some_iff.mp e).1
  have c : cell σ δ pd (.inr k) = (some v, s) := by
    show (match pd[k]? with | some (v, s) => (some v, s) | none => (none, .un)) = _
    rw [e]
  refine h.frz (.inr k) (d := d) ?_ h.len ?_ fun x hx => ?_
  · rw [c]; exact hs
  · rw [c]
    show (match (pd.set k (v, .im d))[k]? with | some (v, s) => (some v, s) | none => (none, .un)) = _
    rw [List.getElem?_set_self hk]
  · cases x with
    | inl j => rfl
    | inr j =>
      have hj : j ≠ k := fun z => hx (by rw [z])
      show (match (pd.set k (v, .im d))[j]? with | some (v, s) => (some v, s) | none => (none, .un)) = (match pd[j]? with | some (v, s) => (some v, s) | none => (none, .un))
      rw [List.getElem?_set_ne (Ne.symm hj)]
end
end Ek

/-! Ek3: reading over data: what an expression, a test, an argument list gives, told of data alone. -/
namespace Ek
open PySem PySem.Spec PyProof.Rows L2

def Sl.con : Sl → Option Dt
  | .un => none
  | .im d => some d
  | .ls ds => some (.lst ds)
  | .ln _ ds => some (.lst ds)
  | .mt rows => some (.lst (rows.map .lst))
/-- what an expression gives: something of its own, or what stands in a slot -/
inductive Rs where
  | sl (s : Sl) | bo (i : Nat)
def Rs.con (δ : List Sl) : Rs → Option Dt
  | .sl s => s.con
  | .bo i => (δ[i]?).bind Sl.con
def Rs.pend : Rs → Sl
  | .sl s => s
  | .bo _ => .un
def RsOk (σ : L2.St) (v : V) : Rs → Prop
  | .sl _ => True
  | .bo i => σ[i]? = some (some v)
abbrev im (d : Dt) : Rs := .sl (.im d)

section
variable {K : PySem.W.Frag} {W : Wd} {F H F' H' : Hp} {σ σ' : L2.St} {δ δ' : List Sl} {pd pd' : List (V × Sl)} {ad : Ix → List Addr}
theorem OwnS.con {o : Option V} {v : V} {as : List Addr} {s : Sl} {d : Dt} (h : OwnS K W F H o as s) (ho : o = some v) (sF : Same F H) (hc : s.con = some d) : Dd K H v d := by
  subst ho
  cases s with
  | un => cases hc
  | im e =>
    obtain ⟨_, w, e1, q⟩ := h
    cases e1; cases hc
    exact q.mono sF
  | ls ds =>
    obtain ⟨p, xs, e1, _, e2, q, _⟩ := h
    cases e1; cases hc
    exact .lst e2 (q.mono sF)
  | ln k ds =>
    obtain ⟨p, xs, e1, _, e2, q, _⟩ := h
    cases e1; cases hc
    exact .lst e2 (q.mono sF)
  | mt rows =>
    obtain ⟨p, bs, e1, _, e2, q, _⟩ := h
    cases e1; cases hc
    exact .lst e2 (q.dd sF)
theorem SatA.slot (h : SatA K W F H σ δ pd ad) {i : Nat} {s : Sl} (e : δ[i]? = some s) (hs : s ≠ .un) : ∃ v, σ[i]? = some (some v) ∧ OwnS K W F H (some v) (ad (.inl i)) s := by
  have o := h.own (.inl i)
  have e2 : (cell σ δ pd (.inl i)).2 = s := by show (δ[i]?).getD .un = s; rw [e]; rfl
  rw [e2] at o
  have key : ∀ v, (cell σ δ pd (.inl i)).1 = some v → σ[i]? = some (some v) := fun v q => by
    have q : (σ[i]?).getD none = some v := q
    cases z : σ[i]? with
    | none => rw [z] at q; cases q
    | some u => rw [z] at q; simp only [Option.getD_some] at q; rw [q]
  cases s with
  | un => exact absurd rfl hs
  | im d => obtain ⟨a, v, b, c⟩ := o; exact ⟨v, key v b, a, v, rfl, c⟩
  | ls ds => obtain ⟨p, xs, b, c⟩ := o; exact ⟨_, key _ b, p, xs, rfl, c⟩
  | ln k ds => obtain ⟨p, xs, b, c⟩ := o; exact ⟨_, key _ b, p, xs, rfl, c⟩
  | mt rows => obtain ⟨p, bs, b, c⟩ := o; exact ⟨_, key _ b, p, bs, rfl, c⟩
theorem Sat.slot (h : Sat K W F H σ δ pd) {i : Nat} {s : Sl} (e : δ[i]? = some s) (hs : s ≠ .un) : ∃ v as, σ[i]? = some (some v) ∧ OwnS K W F H (some v) as s := by
  obtain ⟨ad, h⟩ := h
  obtain ⟨v, a, b⟩ := h.slot e hs
  exact ⟨v, _, a, b⟩
theorem Sat.FH (h : Sat K W F H σ δ pd) : Same F H := by obtain ⟨ad, h⟩ := h; exact h.wk.FH
theorem Sat.F0 (h : Sat K W F H σ δ pd) : Same W.F0 F := by obtain ⟨ad, h⟩ := h; exact h.wk.F0
theorem Sat.len (h : Sat K W F H σ δ pd) : δ.length = σ.length := by obtain ⟨ad, h⟩ := h; exact h.len
theorem Sat.pnd (h : Sat K W F H σ δ pd) {k : Nat} {v : V} {s : Sl} (e : pd[k]? = some (v, s)) : ∃ as, OwnS K W F H (some v) as s := by
  obtain ⟨ad, h⟩ := h
  have o := h.own (.inr k)
  have e2 : cell σ δ pd (.inr k) = (some v, s) := by
    show (match pd[k]? with | some (v, s) => (some v, s) | none => (none, .un)) = _
    rw [e]
  rw [e2] at o
  exact ⟨_, o⟩
/-- the data that a value is now -/
theorem Sat.val (h : Sat K W F H σ δ pd) {k : Nat} {v : V} {r : Rs} {d : Dt} (e : pd[k]? = some (v, r.pend)) (ok : RsOk σ v r) (hc : r.con δ = some d) : Dd K H v d := by
  cases r with
  | sl s =>
    obtain ⟨as, o⟩ := h.pnd e
    exact o.con rfl h.FH hc
  | bo i =>
    have hc : (δ[i]?).bind Sl.con = some d := hc
    cases q : δ[i]? with
    | none => rw [q] at hc; cases hc
    | some s =>
      rw [q] at hc
      obtain ⟨w, as, e1, o⟩ := h.slot q (fun z => by subst z; cases hc)
      have ok : σ[i]? = some (some v) := ok
      rw [ok] at e1
      cases e1
      exact o.con rfl h.FH hc
end

/-! ### judgements -/
def Ev (K : PySem.W.Frag) (te : TE) (δ : List Sl) (P : Rs → List Sl → Prop) : Prop :=
  ∀ W F H σ pd, Sat K W F H σ δ pd → ∀ Q : VK, (∀ F' H' v r δ', P r δ' → RsOk σ v r → Sat K W F' H' σ δ' (pd ++ [(v, r.pend)]) → Q v H') → te σ H Q
def Et (K : PySem.W.Frag) (tt : TT) (δ : List Sl) (P : Bool → List Sl → Prop) : Prop :=
  ∀ W F H σ pd, Sat K W F H σ δ pd → ∀ Q : Bool → Hp → Prop, (∀ F' H' b δ', P b δ' → Sat K W F' H' σ δ' pd → Q b H') → tt σ H Q
inductive RsAll (σ : L2.St) : List V → List Rs → Prop
  | nil : RsAll σ [] []
  | cons {v : V} {vs : List V} {r : Rs} {rs : List Rs} : RsOk σ v r → RsAll σ vs rs → RsAll σ (v :: vs) (r :: rs)
def pends : List V → List Rs → List (V × Sl)
  | v :: vs, r :: rs => (v, r.pend) :: pends vs rs
  | _, _ => []
def Ea (K : PySem.W.Frag) (ta : TA) (δ : List Sl) (P : List Rs → List Sl → Prop) : Prop :=
  ∀ W F H σ pd, Sat K W F H σ δ pd → ∀ Q : List V → Hp → Prop, (∀ F' H' vs rs δ', P rs δ' → RsAll σ vs rs → Sat K W F' H' σ δ' (pd ++ pends vs rs) → Q vs H') → ta σ H Q

/-- what a block leaves -/
structure Nd where
  nx : List Sl → Prop
  rt : Rs → List Sl → Prop
  bk : List Sl → Prop := fun _ => False
  ct : List Sl → Prop := fun _ => False
def EndsOk (K : PySem.W.Frag) (W : Wd) (N : Nd) (D : Ends) : Prop :=
  (∀ F H σ δ, N.nx δ → Sat K W F H σ δ [] → D.nx σ H) ∧
  (∀ F H σ v r δ, N.rt r δ → RsOk σ v r → Sat K W F H σ δ [(v, r.pend)] → D.rt v H) ∧
  (∀ F H σ δ, N.bk δ → Sat K W F H σ δ [] → D.bk σ H) ∧
  (∀ F H σ δ, N.ct δ → Sat K W F H σ δ [] → D.ct σ H)
/-- a statement, a block -/
def Es (K : PySem.W.Frag) (ts : TS) (δ : List Sl) (N : Nd) : Prop :=
  ∀ W F H σ, Sat K W F H σ δ [] → ∀ D : Ends, EndsOk K W N D → ts D σ H

section
variable {K : PySem.W.Frag} {W : Wd} {δ : List Sl} {P : Rs → List Sl → Prop} {PT : Bool → List Sl → Prop} {PA : List Rs → List Sl → Prop} {te ta tb : TE} {tt tu : TT} {i : Nat} {d : Dt}
theorem Ev.mono {P' : Rs → List Sl → Prop} (h : Ev K te δ P) (k : ∀ r δ', P r δ' → P' r δ') : Ev K te δ P' := fun W F H σ pd S Q q => h W F H σ pd S Q fun F' H' v r δ' p => q F' H' v r δ' (k _ _ p)
theorem Et.mono {P' : Bool → List Sl → Prop} (h : Et K tt δ PT) (k : ∀ r δ', PT r δ' → P' r δ') : Et K tt δ P' := fun W F H σ pd S Q q => h W F H σ pd S Q fun F' H' v δ' p => q F' H' v δ' (k _ _ p)

/-! ### names, constants -/
theorem ev_im (h : δ[i]? = some (.im d)) (p : P (im d) δ) : Ev K (tVar i) δ P := fun W F H σ pd S Q q => by
  obtain ⟨v, as, e, _, w, e2, hd⟩ := S.slot h (by intro z; cases z)
  cases e2
  exact ⟨v, e, q F H v _ δ p trivial (S.pushIm hd)⟩
theorem ev_bo {s : Sl} (h : δ[i]? = some s) (hs : s.own = true) (p : P (.bo i) δ) : Ev K (tVar i) δ P := fun W F H σ pd S Q q => by
  obtain ⟨v, as, e, o⟩ := S.slot h (by intro z; subst z; cases hs)
  exact ⟨v, e, q F H v _ δ p e (S.pushUn v)⟩
/-- a constant -/
def vd : V → Option Dt
  | .non => some .non
  | .bl b => some (.bl b)
  | .int i => some (.int i)
  | .str x => some (.str x)
  | .ty n => some (.ty n)
  | _ => none
theorem vd_dd {H : Hp} {v : V} (h : vd v = some d) : Dd K H v d := by
  cases v <;> simp only [vd, Option.some.injEq, reduceCtorEq] at h <;> subst h
  · exact .non
  · exact .bl _
  · exact .int _
  · exact .str _
  · exact .ty _
theorem ev_c {v : V} (h : vd v = some d) (p : P (im d) δ) : Ev K (tC v) δ P := fun W F H σ pd S Q q => q F H v _ δ p trivial (S.pushIm (vd_dd h))
/-- a name of the module that holds data -/
theorem ev_cK {v : V} (h : ∀ H, Dd K H v d) (p : P (im d) δ) : Ev K (tC v) δ P := fun W F H σ pd S Q q => q F H v _ δ p trivial (S.pushIm (h F))

/-! ### operations -/
/-- an operation r on two values that have come -/
def Ap2 (K : PySem.W.Frag) (r : R2) (r1 r2 : Rs) (δ : List Sl) (P : Rs → List Sl → Prop) : Prop :=
  ∀ W F H σ pd v1 v2, Sat K W F H σ δ (pd ++ [(v1, r1.pend), (v2, r2.pend)]) → RsOk σ v1 r1 → RsOk σ v2 r2 → ∀ Q : VK,
    (∀ F' H' v r δ', P r δ' → RsOk σ v r → Sat K W F' H' σ δ' (pd ++ [(v, r.pend)]) → Q v H') → r v1 v2 H Q
def ApC (K : PySem.W.Frag) (r : List V → Hp → VK → Prop) (rs : List Rs) (δ : List Sl) (P : Rs → List Sl → Prop) : Prop :=
  ∀ W F H σ pd vs, Sat K W F H σ δ (pd ++ pends vs rs) → RsAll σ vs rs → ∀ Q : VK,
    (∀ F' H' v r δ', P r δ' → RsOk σ v r → Sat K W F' H' σ δ' (pd ++ [(v, r.pend)]) → Q v H') → r vs H Q
theorem ev_op {r : R2} (h : Ev K ta δ fun r1 δ1 => Ev K tb δ1 fun r2 δ2 => Ap2 K r r1 r2 δ2 P) : Ev K (tOp r ta tb) δ P := fun W F H σ pd S Q q => by
  refine h W F H σ pd S _ fun F1 H1 v1 r1 δ1 h1 ok1 S1 => ?_
  refine h1 W F1 H1 σ _ S1 _ fun F2 H2 v2 r2 δ2 h2 ok2 S2 => ?_
  rw [List.append_assoc] at S2
  exact h2 W F2 H2 σ pd v1 v2 S2 ok1 ok2 Q q
theorem Ap2.inl {r r' : R2} {r1 r2 : Rs} (h : Ap2 K r r1 r2 δ P) : Ap2 K (fun x y H Q => r x y H Q ∨ r' x y H Q) r1 r2 δ P := fun W F H σ pd v1 v2 S a b Q q => .inl (h W F H σ pd v1 v2 S a b Q q)
theorem Ap2.inr {r r' : R2} {r1 r2 : Rs} (h : Ap2 K r' r1 r2 δ P) : Ap2 K (fun x y H Q => r x y H Q ∨ r' x y H Q) r1 r2 δ P := fun W F H σ pd v1 v2 S a b Q q => .inr (h W F H σ pd v1 v2 S a b Q q)
theorem ApC.inl {r r' : List V → Hp → VK → Prop} {rs : List Rs} (h : ApC K r rs δ P) : ApC K (fun xs H Q => r xs H Q ∨ r' xs H Q) rs δ P := fun W F H σ pd vs S a Q q => .inl (h W F H σ pd vs S a Q q)
theorem ApC.inr {r r' : List V → Hp → VK → Prop} {rs : List Rs} (h : ApC K r' rs δ P) : ApC K (fun xs H Q => r xs H Q ∨ r' xs H Q) rs δ P := fun W F H σ pd vs S a Q q => .inr (h W F H σ pd vs S a Q q)
section
variable {F H : Hp} {σ : L2.St} {pd : List (V × Sl)} {v1 v2 : V} {r1 r2 : Rs}
theorem two1 {x y : V × Sl} : (pd ++ [x, y])[pd.length]? = some x := by simp
theorem two2 {x y : V × Sl} : (pd ++ [x, y])[pd.length + 1]? = some y := by simp
end
/-- two plain values give a plain one -/
def OpS (r : R2) (x y z : Dt) : Prop := ∀ (K : PySem.W.Frag) (H : Hp) (v u : V) (Q : VK), Dd K H v x → Dd K H u y → (∀ w, vd w = some z → Q w H) → r v u H Q
theorem ap_S {r : R2} {r1 r2 : Rs} {x y z : Dt} (o : OpS r x y z) (c1 : r1.con δ = some x) (c2 : r2.con δ = some y) (p : P (im z) δ) : Ap2 K r r1 r2 δ P := fun W F H σ pd v1 v2 S k1 k2 Q q => by
  have d1 := S.val two1 k1 c1
  have d2 := S.val two2 k2 c2
  exact o K H v1 v2 Q d1 d2 fun w hw => q F H w _ δ p trivial (S.drop.pushIm (vd_dd hw))
theorem op_I0 {g : Int → Int → V} {a b : Int} {z : Dt} (h : vd (g a b) = some z) : OpS (rI0 g) (.int a) (.int b) z := fun K H v u Q h1 h2 q => by
  cases h1; cases h2
  exact ⟨a, b, rfl, rfl, q _ h⟩
theorem op_I {C : Int → Int → Prop} {g : Int → Int → V} {a b : Int} {z : Dt} (c : C a b) (h : vd (g a b) = some z) : OpS (rI C g) (.int a) (.int b) z := fun K H v u Q h1 h2 q => by
  cases h1; cases h2
  exact ⟨a, b, rfl, rfl, c, q _ h⟩

/-! ### argument lists -/
theorem ea_nil (p : PA [] δ) : Ea K tNil δ PA := fun W F H σ pd S Q q => q F H [] [] δ p .nil (by simpa [pends] using S)
theorem ea_cons {tr : TA} (h : Ev K te δ fun r δ1 => Ea K tr δ1 fun rs δ2 => PA (r :: rs) δ2) : Ea K (tCons te tr) δ PA := fun W F H σ pd S Q q => by
  refine h W F H σ pd S _ fun F1 H1 v r δ1 h1 ok S1 => ?_
  refine h1 W F1 H1 σ _ S1 _ fun F2 H2 vs rs δ2 p oks S2 => ?_
  refine q F2 H2 (v :: vs) (r :: rs) δ2 p (.cons ok oks) ?_
  rw [List.append_assoc] at S2
  exact S2

/-! ### tests -/
theorem et_val (h : Ev K te δ fun r δ' => ∃ b, r = im (.bl b) ∧ PT b δ') : Et K (tB te) δ PT := fun W F H σ pd S Q q => by
  refine h W F H σ pd S _ fun F1 H1 v r δ1 h1 ok S1 => ?_
  obtain ⟨b, rfl, p⟩ := h1
  obtain ⟨as, o⟩ := S1.pnd (k := pd.length) (v := v) (s := .im (.bl b)) (by simp [Rs.pend])
  obtain ⟨_, w, e, d⟩ := o
  cases e; cases d
  exact ⟨b, rfl, q F1 H1 b δ1 p S1.drop⟩
theorem et_test (h : Ev K te δ fun r δ' => ∃ b, r = im (.bl b) ∧ PT b δ') : Et K (tTest te) δ PT := et_val h
theorem et_and {u : TT} (h : Et K tt δ fun b δ' => (b = true → Et K u δ' PT) ∧ (b = false → PT false δ')) : Et K (tAnd tt u) δ PT := fun W F H σ pd S Q q => by
  refine h W F H σ pd S _ fun F1 H1 b δ1 h1 S1 => ?_
  cases b with
  | true => exact iteT (h1.1 rfl W F1 H1 σ pd S1 Q q)
  | false => exact iteF (q F1 H1 false δ1 (h1.2 rfl) S1)
theorem et_or {u : TT} (h : Et K tt δ fun b δ' => (b = true → PT true δ') ∧ (b = false → Et K u δ' PT)) : Et K (tOr tt u) δ PT := fun W F H σ pd S Q q => by
  refine h W F H σ pd S _ fun F1 H1 b δ1 h1 S1 => ?_
  cases b with
  | true => exact iteT (q F1 H1 true δ1 (h1.1 rfl) S1)
  | false => exact iteF (h1.2 rfl W F1 H1 σ pd S1 Q q)
theorem et_not (h : Et K tt δ fun b δ' => PT (!b) δ') : Et K (tNot tt) δ PT := fun W F H σ pd S Q q => h W F H σ pd S _ fun F1 H1 b δ1 h1 S1 => q F1 H1 (!b) δ1 h1 S1
theorem ev_if {t : TT} (h : Et K t δ fun b δ' => (b = true → Ev K ta δ' P) ∧ (b = false → Ev K tb δ' P)) : Ev K (tIf t ta tb) δ P := fun W F H σ pd S Q q => by
  refine h W F H σ pd S _ fun F1 H1 b δ1 h1 S1 => ?_
  cases b with
  | true => exact iteT (h1.1 rfl W F1 H1 σ pd S1 Q q)
  | false => exact iteF (h1.2 rfl W F1 H1 σ pd S1 Q q)
theorem ev_isB {b : Bool} {v : V} (h : Dd K H v (.bl b)) : v = .bl b := by cases h; rfl
theorem ev_andV (h : Ev K ta δ fun r δ' => ∃ b, r = im (.bl b) ∧ (b = true → Ev K tb δ' P) ∧ (b = false → P (im (.bl false)) δ')) : Ev K (tAndV ta tb) δ P := fun W F H σ pd S Q q => by
  refine h W F H σ pd S _ fun F1 H1 v r δ1 h1 ok S1 => ?_
  obtain ⟨b, rfl, h2, h3⟩ := h1
  obtain ⟨as, _, w, e, d⟩ := S1.pnd (k := pd.length) (v := v) (s := .im (.bl b)) (by simp [Rs.pend])
  cases e; cases d
  refine ⟨b, rfl, ?_⟩
  cases b with
  | true => exact iteT (h2 rfl W F1 H1 σ pd S1.drop Q q)
  | false => exact iteF (q F1 H1 _ _ δ1 (h3 rfl) trivial S1)
theorem ev_orV (h : Ev K ta δ fun r δ' => ∃ b, r = im (.bl b) ∧ (b = true → P (im (.bl true)) δ') ∧ (b = false → Ev K tb δ' P)) : Ev K (tOrV ta tb) δ P := fun W F H σ pd S Q q => by
  refine h W F H σ pd S _ fun F1 H1 v r δ1 h1 ok S1 => ?_
  obtain ⟨b, rfl, h2, h3⟩ := h1
  obtain ⟨as, _, w, e, d⟩ := S1.pnd (k := pd.length) (v := v) (s := .im (.bl b)) (by simp [Rs.pend])
  cases e; cases d
  refine ⟨b, rfl, ?_⟩
  cases b with
  | true => exact iteT (q F1 H1 _ _ δ1 (h2 rfl) trivial S1)
  | false => exact iteF (h3 rfl W F1 H1 σ pd S1.drop Q q)
theorem ev_notV (h : Ev K ta δ fun r δ' => ∃ b, r = im (.bl b) ∧ P (im (.bl (!b))) δ') : Ev K (tNotV ta) δ P := fun W F H σ pd S Q q => by
  refine h W F H σ pd S _ fun F1 H1 v r δ1 h1 ok S1 => ?_
  obtain ⟨b, rfl, p⟩ := h1
  obtain ⟨as, _, w, e, d⟩ := S1.pnd (k := pd.length) (v := v) (s := .im (.bl b)) (by simp [Rs.pend])
  cases e; cases d
  exact ⟨b, rfl, q F1 H1 _ _ δ1 p trivial (S1.drop.pushIm (.bl _))⟩
/-- a < b < c -/
theorem ev_chain {r r' : R2} {tc : TE} (h : Ev K ta δ fun r1 δ1 => Ev K tb δ1 fun r2 δ2 => ∃ y, r2 = im y ∧ ∃ b, (∀ W F H σ pd v1 v2, Sat K W F H σ δ2 (pd ++ [(v1, r1.pend), (v2, .im y)]) → RsOk σ v1 r1 → ∀ Q : VK, Q (.bl b) H → r v1 v2 H Q) ∧
    (b = true → Ev K tc δ2 fun r4 δ4 => Ap2 K r' (im y) r4 δ4 P) ∧ (b = false → P (im (.bl false)) δ2)) : Ev K (tChain r r' ta tb tc) δ P := fun W F H σ pd S Q q => by
  refine h W F H σ pd S _ fun F1 H1 v1 r1 δ1 h1 ok1 S1 => ?_
  refine h1 W F1 H1 σ _ S1 _ fun F2 H2 v2 r2 δ2 h2 ok2 S2 => ?_
  obtain ⟨y, rfl, b, hr, ht, hf⟩ := h2
  have S2' : Sat K W F2 H2 σ δ2 (pd ++ [(v1, r1.pend), (v2, .im y)]) := by
    rw [List.append_assoc] at S2; exact S2
  refine hr W F2 H2 σ pd v1 v2 S2' ok1 _ ⟨b, rfl, ?_⟩
  cases b with
  | false => exact iteF (q F2 H2 _ _ δ2 (hf rfl) trivial (S2'.drop.pushIm (.bl _)))
  | true =>
    refine iteT ?_
    have hy : Dd K F2 v2 y := by
      obtain ⟨as, _, w, e, d⟩ := S2'.pnd two2
      cases e
      exact d
    have S3 : Sat K W F2 H2 σ δ2 (pd ++ [(v2, .im y)]) := S2'.drop.pushIm hy
    refine ht rfl W F2 H2 σ _ S3 _ fun F4 H4 v4 r4 δ4 h4 ok4 S4 => ?_
    rw [List.append_assoc] at S4
    exact h4 W F4 H4 σ pd v2 v4 S4 trivial ok4 Q q
/-! ### items -/
/-- the frozen items of a list, a tuple -/
def Sl.its : Sl → Option (List Dt)
  | .im (.tup ds) => some ds
  | .im (.lst ds) => some ds
  | .im (.sq ds) => some ds
  | .ls ds => some ds
  | .ln _ ds => some ds
  | _ => none
def Rs.its (δ : List Sl) : Rs → Option (List Dt)
  | .sl s => s.its
  | .bo i => (δ[i]?).bind Sl.its
theorem OwnS.its {F H : Hp} {v : V} {as : List Addr} {s : Sl} {ds : List Dt} (h : OwnS K W F H (some v) as s) (sF : Same F H) (hc : s.its = some ds) :
    ∃ a xs, v = .ref a ∧ (SqL K H a xs ∨ SqT K H a xs) ∧ DdAll K F xs ds := by
  cases s with
  | un => cases hc
  | im e =>
    obtain ⟨_, w, e1, q⟩ := h
    cases e1
    cases q with
    | tup h1 h2 => cases hc; exact ⟨_, _, rfl, .inr (sqT_mono sF h1), h2⟩
    | lst h1 h2 => cases hc; exact ⟨_, _, rfl, .inl (SqL.of (sF _ _ h1)), h2⟩
    | sq h1 h2 => cases hc; exact ⟨_, _, rfl, .inl (sF.seq h1), h2⟩
    | _ => cases hc
  | ls es =>
    obtain ⟨p, xs, e1, _, e2, q, _⟩ := h
    cases e1; cases hc
    exact ⟨p, xs, rfl, .inl (SqL.of e2), q⟩
  | ln k es =>
    obtain ⟨p, xs, e1, _, e2, q, _⟩ := h
    cases e1; cases hc
    exact ⟨p, xs, rfl, .inl (SqL.of e2), q⟩
  | mt rows => cases hc
theorem Sat.its {F H : Hp} {σ : L2.St} {pd : List (V × Sl)} (h : Sat K W F H σ δ pd) {k : Nat} {v : V} {r : Rs} {ds : List Dt} (e : pd[k]? = some (v, r.pend)) (ok : RsOk σ v r) (hc : r.its δ = some ds) :
    ∃ a xs, v = .ref a ∧ (SqL K H a xs ∨ SqT K H a xs) ∧ DdAll K F xs ds := by
  cases r with
  | sl s =>
    obtain ⟨as, o⟩ := h.pnd e
    exact o.its h.FH hc
  | bo i =>
    have hc : (δ[i]?).bind Sl.its = some ds := hc
    cases q : δ[i]? with
    | none => rw [q] at hc; cases hc
    | some s =>
      rw [q] at hc
      obtain ⟨w, as, e1, o⟩ := h.slot q (fun z => by subst z; cases hc)
      have ok : σ[i]? = some (some v) := ok
      rw [ok] at e1
      cases e1
      exact o.its h.FH hc
theorem DdAll.at {F : Hp} {xs : List V} {ds : List Dt} {i : Int} {d : Dt} (h : DdAll K F xs ds) (e : atI ds i = some d) : ∃ v, atI xs i = some v ∧ Dd K F v d := by
  unfold atI at e ⊢
  rw [h.length]
  cases z : ixN ds.length i with
  | none => rw [z] at e; cases e
  | some j =>
    rw [z] at e
    exact h.get e
/-- xs[i] -/
theorem ap_ix {r1 : Rs} {ds : List Dt} {i : Int} {d : Dt} (hc : r1.its δ = some ds) (e : atI ds i = some d) (p : P (im d) δ) : Ap2 K (rIx K) r1 (im (.int i)) δ P := fun W F H σ pd v1 v2 S k1 k2 Q q => by
  obtain ⟨a, xs, rfl, hs, hd⟩ := S.its two1 k1 hc
  obtain ⟨v, e1, e2⟩ := hd.at e
  obtain ⟨as, _, w, e3, d3⟩ := S.pnd two2
  cases e3; cases d3
  have S' := S.drop.pushIm e2
  rcases hs with hs | hs
  · exact .inl ⟨a, xs, i, v, rfl, rfl, hs, e1, q F H v _ δ p trivial S'⟩
  · exact .inr (.inl ⟨a, xs, i, v, rfl, rfl, hs, e1, q F H v _ δ p trivial S'⟩)
/-- s[i] -/
theorem ap_ixS {z : Str} {i : Int} {c : Nat} (hz : z.length ≤ sizeLine) (e : atI z.cps.toList i = some c) (p : P (im (.str ⟨#[c]⟩)) δ) : Ap2 K (rIx K) (im (.str z)) (im (.int i)) δ P := fun W F H σ pd v1 v2 S k1 k2 Q q => by
  obtain ⟨as, _, w, e2, d2⟩ := S.pnd two1
  obtain ⟨as, _, w, e3, d3⟩ := S.pnd two2
  cases e2; cases d2; cases e3; cases d3
  exact .inr (.inr ⟨z, i, c, rfl, rfl, hz, e, q F H _ _ δ p trivial (S.drop.pushIm (.str _))⟩)
end
end Ek

/-! Ek4: displays, calls of defs by their promise over data. -/
namespace Ek
open PySem PySem.Spec PyProof.Rows L2

section
variable {K : PySem.W.Frag} {W : Wd} {F H F' H' : Hp} {σ σ' : L2.St} {δ δ' : List Sl} {pd pd' : List (V × Sl)} {ad : Ix → List Addr} {P : Rs → List Sl → Prop} {te : TE} {ta : TA}
/-! ### frozen lists of values -/
def Rs.fd : Rs → Option Dt
  | .sl s => s.frd
  | .bo _ => none
def fds : List Rs → Option (List Dt)
  | [] => some []
  | r :: rs => match r.fd, fds rs with
    | some d, some ds => some (d :: ds)
    | _, _ => none
theorem RsAll.length : ∀ {vs : List V} {rs : List Rs}, RsAll σ vs rs → vs.length = rs.length
  | _, _, .nil => rfl
  | _, _, .cons _ h => congrArg Nat.succ h.length
theorem Sat.popIm (h : Sat K W F H σ δ pd) {k : Nat} {v : V} {d : Dt} (e : pd[k]? = some (v, .im d)) : Dd K F v d := by
  obtain ⟨as, _, w, e2, q⟩ := h.pnd e
  cases e2
  exact q
theorem Sat.frzAll {rs : List Rs} {vs : List V} (oks : RsAll σ vs rs) : ∀ {ds : List Dt} {F : Hp} {pd : List (V × Sl)}, Sat K W F H σ δ (pd ++ pends vs rs) → fds rs = some ds → ∃ F', Same F F' ∧ Sat K W F' H σ δ pd ∧ DdAll K F' vs ds := by
  induction oks with
  | nil =>
    intro ds F pd S e
    cases e
    exact ⟨F, Same.refl _, by simpa [pends] using S, .nil⟩
  | cons ok oks ih =>
    rename_i v vs r rs
    intro ds F pd S e
    simp only [fds] at e
    cases e1 : r.fd with
    | none => rw [e1] at e; cases e
    | some d =>
      cases e2 : fds rs with
      | none => rw [e1, e2] at e; cases e
      | some es =>
        rw [e1, e2] at e
        cases e
        cases r with
        | bo i => cases e1
        | sl s =>
          have S : Sat K W F H σ δ (pd ++ (v, s) :: pends vs rs) := S
          obtain ⟨F1, s1, S1⟩ := S.frzPd (k := pd.length) (v := v) (s := s) (d := d) (by simp) e1
          have eq : (pd ++ (v, s) :: pends vs rs).set pd.length (v, Sl.im d) = (pd ++ [(v, Sl.im d)]) ++ pends vs rs := by
            rw [List.set_append_right _ _ (Nat.le_refl _), Nat.sub_self]
            simp
          rw [eq] at S1
          obtain ⟨F2, s2, S2, D2⟩ := ih (pd := pd ++ [(v, .im d)]) S1 e2
          exact ⟨F2, s1.trans s2, S2.drop, .cons (S2.popIm (k := pd.length) (by simp)) D2⟩
theorem ev_tup (h : Ea K ta δ fun rs δ1 => ∃ ds, fds rs = some ds ∧ ds.length ≤ sizeLine ∧ P (im (.tup ds)) δ1) : Ev K (tTup ta) δ P := fun W F H σ pd S Q q => by
  refine h W F H σ pd S _ fun F1 H1 vs rs δ1 h1 oks S1 => ?_
  obtain ⟨ds, e, hz, p⟩ := h1
  obtain ⟨F2, s2, S2, D2⟩ := Sat.frzAll oks S1 e
  refine ⟨by rw [D2.length]; exact hz, fun p' hp => ?_⟩
  exact q _ _ _ _ δ1 p trivial (S2.newT hp D2).1
theorem ev_lst (h : Ea K ta δ fun rs δ1 => ∃ ds, fds rs = some ds ∧ ds.length ≤ sizeLine ∧ P (.sl (.ls ds)) δ1) : Ev K (tLst ta) δ P := fun W F H σ pd S Q q => by
  refine h W F H σ pd S _ fun F1 H1 vs rs δ1 h1 oks S1 => ?_
  obtain ⟨ds, e, hz, p⟩ := h1
  obtain ⟨F2, s2, S2, D2⟩ := Sat.frzAll oks S1 e
  refine ⟨by rw [D2.length]; exact hz, fun p' hp => ?_⟩
  exact q _ _ _ _ δ1 p trivial (S2.newLs hp D2)
theorem Sat.pushIms : ∀ {vs : List V} {ds : List Dt} {pd : List (V × Sl)}, Sat K W F H σ δ pd → DdAll K F vs ds → Sat K W F H σ δ (pd ++ pends vs (ds.map im))
  | _, _, pd, S, .nil => by simpa [pends] using S
  | _, _, pd, S, .cons (v := v) (d := d) h hs => by
    have := Sat.pushIms (S.pushIm h) hs
    rw [List.append_assoc] at this
    exact this
theorem rsAll_im : ∀ {vs : List V} {ds : List Dt}, DdAll K F vs ds → RsAll σ vs (ds.map im)
  | _, _, .nil => .nil
  | _, _, .cons _ h => .cons trivial (rsAll_im h)
theorem RsAll.append : ∀ {vs ws : List V} {rs ss : List Rs}, RsAll σ vs rs → RsAll σ ws ss → RsAll σ (vs ++ ws) (rs ++ ss)
  | _, _, _, _, .nil, h => h
  | _, _, _, _, .cons a b, h => .cons a (RsAll.append b h)
theorem pends_append : ∀ {vs ws : List V} {rs ss : List Rs}, RsAll σ vs rs → pends (vs ++ ws) (rs ++ ss) = pends vs rs ++ pends ws ss
  | _, _, _, _, .nil => rfl
  | _, _, _, _, .cons (v := v) (r := r) a b => by
    exact congrArg (List.cons (v, r.pend)) (pends_append b)
theorem ea_star {tr : TA} {PA : List Rs → List Sl → Prop} (h : Ev K te δ fun r δ1 => ∃ ds, r.its δ1 = some ds ∧ Ea K tr δ1 fun rs δ2 => PA (ds.map im ++ rs) δ2) : Ea K (StX.tStar K te tr) δ PA := fun W F H σ pd S Q q => by
  refine h W F H σ pd S _ fun F1 H1 v r δ1 h1 ok S1 => ?_
  obtain ⟨ds, e, h2⟩ := h1
  obtain ⟨a, xs, rfl, hs, hd⟩ := S1.its (k := pd.length) (by simp) ok e
  refine ⟨a, xs, rfl, hs.elim .inr .inl, ?_⟩
  have S2 := S1.drop.pushIms hd
  refine h2 W F1 H1 σ _ S2 _ fun F2 H2 vs rs δ2 p oks S3 => ?_
  refine q F2 H2 _ _ δ2 p ((rsAll_im hd).append oks) ?_
  rw [pends_append (rsAll_im (σ := σ) hd), ← List.append_assoc]
  exact S3

/-! ### a def's promise over data -/
/-- A: from the arguments (data, or lists that are lent: .ln j at place j) to the result and what the lent lists hold then -/
def FD (K : PySem.W.Frag) (A : List Sl → (Sl → List Sl → Prop) → Prop) : Sp := fun vs H Q _ =>
  ∃ F Ad δa, Sat K ⟨F, H, Ad⟩ F H (vs.map some) δa [] ∧ ∃ q : Sl → List Sl → Prop, A δa q ∧ ∀ s δa', q s δa' → ∀ F' H' v, Sat K ⟨F, H, Ad⟩ F' H' (vs.map some) δa' [(v, s)] → Q v H'

def Ag (δ : List Sl) (j : Nat) : Rs → Option Sl
  | .sl s => s.frd.map Sl.im
  | .bo i => match δ[i]? with
    | some s => s.lsts.map (Sl.ln j)
    | none => none
def Ags (δ : List Sl) : Nat → List Rs → Option (List Sl)
  | _, [] => some []
  | j, r :: rs => match Ag δ j r, Ags δ (j + 1) rs with
    | some s, some ss => some (s :: ss)
    | _, _ => none
/-- the lent slots take what stands there now -/
def bks : List Sl → List Rs → List Sl → List Sl
  | δ, .bo i :: rs, .ln _ ds :: ss => bks (δ.set i (((δ[i]?).getD .un).put ds)) rs ss
  | δ, _ :: rs, _ :: ss => bks δ rs ss
  | δ, _, _ => δ
def shp : Nat → List Rs → List Sl → Prop
  | j, .bo _ :: rs, .ln k _ :: ss => k = j ∧ shp (j + 1) rs ss
  | _, .bo _ :: _, _ => False
  | j, .sl _ :: rs, _ :: ss => shp (j + 1) rs ss
  | _, .sl _ :: _, [] => False
  | _, [], [] => True
  | _, [], _ :: _ => False
def bos : List Rs → List Nat
  | [] => []
  | .bo i :: rs => i :: bos rs
  | .sl _ :: rs => bos rs
def ndB : List Nat → Bool
  | [] => true
  | i :: is => !is.contains i && ndB is

theorem OwnS.some {v : V} {as : List Addr} {s : Sl} {a : Addr} (h : OwnS K W F H (some v) as s) (ha : a ∈ as) : ∃ o, H a = some o := by
  cases s with
  | un => rw [show as = [] from h] at ha; cases ha
  | im d => rw [h.1] at ha; cases ha
  | ls ds => obtain ⟨p, xs, _, e, e2, _⟩ := h; rw [e] at ha; rw [show a = p by simpa using ha]; exact ⟨_, e2⟩
  | ln k ds => obtain ⟨p, xs, _, e, e2, _⟩ := h; rw [e] at ha; rw [show a = p by simpa using ha]; exact ⟨_, e2⟩
  | mt rows =>
    obtain ⟨p, bs, _, e, e2, r, _⟩ := h
    rw [e] at ha
    rcases List.mem_cons.mp ha with z | z
    · rw [z]; exact ⟨_, e2⟩
    · have : ∀ {bs : List Addr} {rows : List (List Dt)}, Rws K F H bs rows → a ∈ bs → ∃ o, H a = .some o := fun {bs rows} r => by
        induction r with
        | nil => intro z; cases z
        | cons xs h1 _ _ ih =>
          intro z
          rcases List.mem_cons.mp z with z | z
          · rw [z]; exact ⟨_, h1⟩
          · exact ih z
      exact this r z
theorem SatA.there (h : SatA K W F H σ δ pd ad) {x : Ix} {a : Addr} (ha : a ∈ ad x) : H a ≠ none := fun e => h.neq e x a ha rfl

/-! ### the call -/
/-- the lent cells' addresses, by place -/
def lents : List V → List Rs → Nat → Option Addr
  | .ref p :: _, .bo _ :: _, 0 => some p
  | _ :: vs, _ :: rs, j + 1 => lents vs rs j
  | _, _, _ => none
theorem lents_some : ∀ {vs : List V} {rs : List Rs} {j : Nat} {p : Addr}, lents vs rs j = some p → ∃ i, rs[j]? = some (.bo i) ∧ vs[j]? = some (.ref p)
  | v :: vs, r :: rs, 0, p, h => by
    cases v <;> cases r <;> simp only [lents, reduceCtorEq, Option.some.injEq] at h
    subst h
    exact ⟨_, rfl, rfl⟩
  | v :: vs, r :: rs, j + 1, p, h => by
    have h : lents vs rs j = some p := by cases v <;> cases r <;> exact h
    obtain ⟨i, a, b⟩ := lents_some h
    exact ⟨i, by simpa using a, by simpa using b⟩
  | [], _, _, _, h => by simp [lents] at h
  | _ :: _, [], _, _, h => by simp [lents] at h
theorem lents_of : ∀ {vs : List V} {rs : List Rs} {j i : Nat} {p : Addr}, rs[j]? = some (.bo i) → vs[j]? = some (.ref p) → lents vs rs j = some p
  | v :: vs, r :: rs, 0, i, p, h1, h2 => by
    simp at h1 h2
    subst h1 h2
    rfl
  | v :: vs, r :: rs, j + 1, i, p, h1, h2 => by
    have := lents_of (vs := vs) (rs := rs) (j := j) (by simpa using h1) (by simpa using h2)
    cases v <;> cases r <;> exact this
  | [], _, _, _, _, _, h => by simp at h
  | _ :: _, [], _, _, _, h, _ => by simp at h
theorem mem_bos : ∀ {rs : List Rs} {j i : Nat}, rs[j]? = some (.bo i) → i ∈ bos rs
  | [], _, _, h => by simp at h
  | r :: rs, 0, i, h => by
    simp at h
    subst h
    exact List.mem_cons_self ..
  | r :: rs, j + 1, i, h => by
    have := mem_bos (rs := rs) (j := j) (by simpa using h)
    cases r with
    | sl s => exact this
    | bo k => exact List.mem_cons_of_mem _ this
theorem bos_inj : ∀ {rs : List Rs} {j k i : Nat}, ndB (bos rs) = true → rs[j]? = some (.bo i) → rs[k]? = some (.bo i) → j = k
  | [], _, _, _, _, h, _ => by simp at h
  | r :: rs, j, k, i, nd, h1, h2 => by
    have nd' : ndB (bos rs) = true := by
      cases r with
      | sl s => exact nd
      | bo m => simp only [bos, ndB, Bool.and_eq_true] at nd; exact nd.2
    cases j with
    | zero =>
      cases k with
      | zero => rfl
      | succ k =>
        simp at h1 h2
        subst h1
        have m := mem_bos h2
        simp only [bos, ndB, Bool.and_eq_true, Bool.not_eq_true', List.contains_eq_mem, decide_eq_false_iff_not] at nd
        exact absurd m nd.1
    | succ j =>
      cases k with
      | zero =>
        simp at h1 h2
        subst h2
        have m := mem_bos h1
        simp only [bos, ndB, Bool.and_eq_true, Bool.not_eq_true', List.contains_eq_mem, decide_eq_false_iff_not] at nd
        exact absurd m nd.1
      | succ k => exact congrArg Nat.succ (bos_inj nd' (by simpa using h1) (by simpa using h2))
theorem RsAll.get : ∀ {vs : List V} {rs : List Rs} {j : Nat} {r : Rs}, RsAll σ vs rs → rs[j]? = some r → ∃ v, vs[j]? = some v ∧ RsOk σ v r
  | _, _, _, _, .nil, h => by simp at h
  | _, _, 0, _, .cons a _, h => by simp at h; subst h; exact ⟨_, rfl, a⟩
  | _, _, j + 1, _, .cons _ b, h => by
    obtain ⟨v, e1, e2⟩ := RsAll.get (j := j) b (by simpa using h)
    exact ⟨v, by simpa using e1, e2⟩
theorem Ags_get : ∀ {rs : List Rs} {k j : Nat} {ss : List Sl} {r : Rs}, Ags δ k rs = some ss → rs[j]? = some r → ∃ s, ss[j]? = some s ∧ Ag δ (k + j) r = some s
  | [], _, _, _, _, _, h => by simp at h
  | r :: rs, k, j, ss, r', e, h => by
    simp only [Ags] at e
    cases e1 : Ag δ k r with
    | none => rw [e1] at e; cases e
    | some s =>
      cases e2 : Ags δ (k + 1) rs with
      | none => rw [e1, e2] at e; cases e
      | some tt =>
        rw [e1, e2] at e
        cases e
        cases j with
        | zero => simp at h; subst h; exact ⟨s, rfl, e1⟩
        | succ j =>
          obtain ⟨u, a, b⟩ := Ags_get e2 (by simpa using h)
          exact ⟨u, by simpa using a, by rw [← b]; congr 1; omega⟩
theorem Ags_len : ∀ {rs : List Rs} {k : Nat} {ss : List Sl}, Ags δ k rs = some ss → ss.length = rs.length
  | [], _, _, e => by simp only [Ags, Option.some.injEq] at e; subst e; rfl
  | r :: rs, k, ss, e => by
    simp only [Ags] at e
    cases e1 : Ag δ k r with
    | none => rw [e1] at e; cases e
    | some s =>
      cases e2 : Ags δ (k + 1) rs with
      | none => rw [e1, e2] at e; cases e
      | some tt =>
        rw [e1, e2] at e
        cases e
        exact congrArg Nat.succ (Ags_len e2)
/-- freezing what was made for the arguments -/
theorem Sat.frzArgs {rs : List Rs} {vs : List V} (oks : RsAll σ vs rs) : ∀ {ss : List Sl} {k : Nat} {F : Hp} {pd : List (V × Sl)}, Sat K W F H σ δ (pd ++ pends vs rs) → Ags δ k rs = some ss →
    ∃ F', Same F F' ∧ Sat K W F' H σ δ pd ∧ ∀ (j : Nat) (v : V) (d : Dt), vs[j]? = some v → ss[j]? = some (.im d) → Dd K F' v d := by
  induction oks with
  | nil =>
    intro ss k F pd S e
    exact ⟨F, Same.refl _, by simpa [pends] using S, fun j v d h => by simp at h⟩
  | cons ok oks ih =>
    rename_i v vs r rs
    intro ss k F pd S e
    simp only [Ags] at e
    cases e1 : Ag δ k r with
    | none => rw [e1] at e; cases e
    | some s =>
      cases e2 : Ags δ (k + 1) rs with
      | none => rw [e1, e2] at e; cases e
      | some tt =>
        rw [e1, e2] at e
        cases e
        cases r with
        | bo i =>
          have S : Sat K W F H σ δ (pd ++ (v, .un) :: pends vs rs) := S
          have eq : pd ++ (v, Sl.un) :: pends vs rs = (pd ++ [(v, Sl.un)]) ++ pends vs rs := by simp
          rw [eq] at S
          obtain ⟨F2, s2, S2, D2⟩ := ih (pd := pd ++ [(v, .un)]) S e2
          refine ⟨F2, s2, S2.drop, fun j w d h1 h2 => ?_⟩
          cases j with
          | zero =>
            simp at h2
            simp only [Ag] at e1
            cases q : δ[i]? with
            | none => rw [q] at e1; cases e1
            | some s0 =>
              rw [q] at e1
              have e1 : s0.lsts.map (Sl.ln k) = some s := e1
              cases q2 : s0.lsts with
              | none => rw [q2] at e1; cases e1
              | some ds =>
                rw [q2] at e1
                rw [h2] at e1
                cases e1
          | succ j => exact D2 j w d (by simpa using h1) (by simpa using h2)
        | sl s0 =>
          have e1 : s0.frd.map Sl.im = some s := e1
          cases q : s0.frd with
          | none => rw [q] at e1; cases e1
          | some d0 =>
            rw [q] at e1
            cases e1
            have S : Sat K W F H σ δ (pd ++ (v, s0) :: pends vs rs) := S
            obtain ⟨F1, s1, S1⟩ := S.frzPd (k := pd.length) (v := v) (s := s0) (d := d0) (by simp) q
            have eq : (pd ++ (v, s0) :: pends vs rs).set pd.length (v, Sl.im d0) = (pd ++ [(v, Sl.im d0)]) ++ pends vs rs := by
              rw [List.set_append_right _ _ (Nat.le_refl _), Nat.sub_self]
              simp
            rw [eq] at S1
            obtain ⟨F2, s2, S2, D2⟩ := ih (pd := pd ++ [(v, .im d0)]) S1 e2
            refine ⟨F2, s1.trans s2, S2.drop, fun j w d h1 h2 => ?_⟩
            cases j with
            | zero =>
              simp at h1 h2
              subst h1 h2
              exact S2.popIm (k := pd.length) (by simp)
            | succ j => exact D2 j w d (by simpa using h1) (by simpa using h2)
theorem bks_len : ∀ {rs : List Rs} {ss : List Sl} {δ : List Sl}, (bks δ rs ss).length = δ.length
  | [], _, δ => by cases ‹List Sl› <;> simp [bks]
  | .sl _ :: rs, [], δ => by simp [bks]
  | .bo _ :: rs, [], δ => by simp [bks]
  | .sl _ :: rs, s :: ss, δ => by
    have := bks_len (rs := rs) (ss := ss) (δ := δ)
    simpa [bks] using this
  | .bo i :: rs, s :: ss, δ => by
    cases s with
    | ln k ds => rw [show bks δ (.bo i :: rs) (.ln k ds :: ss) = bks (δ.set i (((δ[i]?).getD .un).put ds)) rs ss from rfl, bks_len, List.length_set]
    | un => exact bks_len (rs := rs) (ss := ss) (δ := δ)
    | im d => exact bks_len (rs := rs) (ss := ss) (δ := δ)
    | ls ds => exact bks_len (rs := rs) (ss := ss) (δ := δ)
    | mt rows => exact bks_len (rs := rs) (ss := ss) (δ := δ)
/-- a slot that is not lent stays -/
theorem bks_out : ∀ {rs : List Rs} {ss : List Sl} {δ : List Sl} {i : Nat}, i ∉ bos rs → (bks δ rs ss)[i]? = δ[i]?
  | [], _, δ, i, _ => by cases ‹List Sl› <;> simp [bks]
  | .sl _ :: rs, [], δ, i, _ => by simp [bks]
  | .bo _ :: rs, [], δ, i, _ => by simp [bks]
  | .sl _ :: rs, s :: ss, δ, i, h => by
    have := bks_out (rs := rs) (ss := ss) (δ := δ) (i := i) h
    simpa [bks] using this
  | .bo m :: rs, s :: ss, δ, i, h => by
    have h1 : i ≠ m := fun z => h (by rw [z]; exact List.mem_cons_self ..)
    have h2 : i ∉ bos rs := fun z => h (List.mem_cons_of_mem _ z)
    cases s with
    | ln k ds =>
      rw [show bks δ (.bo m :: rs) (.ln k ds :: ss) = bks (δ.set m (((δ[m]?).getD .un).put ds)) rs ss from rfl, bks_out h2, List.getElem?_set_ne (Ne.symm h1)]
    | un => exact bks_out (rs := rs) (ss := ss) (δ := δ) h2
    | im d => exact bks_out (rs := rs) (ss := ss) (δ := δ) h2
    | ls ds => exact bks_out (rs := rs) (ss := ss) (δ := δ) h2
    | mt rows => exact bks_out (rs := rs) (ss := ss) (δ := δ) h2
theorem bks_in : ∀ {rs : List Rs} {ss : List Sl} {δ : List Sl} {k j i : Nat}, shp k rs ss → ndB (bos rs) = true → rs[j]? = some (.bo i) → i < δ.length →
    ∃ ds, ss[j]? = some (.ln (k + j) ds) ∧ (bks δ rs ss)[i]? = some (((δ[i]?).getD .un).put ds)
  | [], _, _, _, _, _, _, _, h, _ => by simp at h
  | .sl _ :: rs, [], _, _, _, _, h, _, _, _ => h.elim
  | .bo _ :: rs, [], _, _, _, _, h, _, _, _ => h.elim
  | .sl _ :: rs, s :: ss, δ, k, j, i, h, nd, e, hi => by
    cases j with
    | zero => simp at e
    | succ j =>
      obtain ⟨ds, a, b⟩ := bks_in (rs := rs) (ss := ss) (δ := δ) (k := k + 1) (j := j) (i := i) (by simpa [shp] using h) nd (by simpa using e) hi
      refine ⟨ds, by rw [List.getElem?_cons_succ, a, show k + 1 + j = k + (j + 1) by omega], ?_⟩
      rw [show bks δ (.sl _ :: rs) (s :: ss) = bks δ rs ss by simp [bks]]
      exact b
  | .bo m :: rs, s :: ss, δ, k, j, i, h, nd, e, hi => by
    simp only [bos, ndB, Bool.and_eq_true, Bool.not_eq_true', List.contains_eq_mem, decide_eq_false_iff_not] at nd
    cases s with
    | ln k' ds =>
      obtain ⟨rfl, h⟩ := h
      rw [show bks δ (.bo m :: rs) (.ln k' ds :: ss) = bks (δ.set m (((δ[m]?).getD .un).put ds)) rs ss from rfl]
      cases j with
      | zero =>
        simp at e
        subst e
        refine ⟨ds, rfl, ?_⟩
        rw [bks_out nd.1, List.getElem?_set_self hi]
      | succ j =>
        have e : rs[j]? = some (.bo i) := by simpa using e
        have ne : i ≠ m := fun z => nd.1 (z ▸ mem_bos e)
        obtain ⟨es, a, b⟩ := bks_in (rs := rs) (ss := ss) (δ := δ.set m (((δ[m]?).getD .un).put ds)) (k := k' + 1) (j := j) (i := i) h nd.2 e (by rw [List.length_set]; exact hi)
        refine ⟨es, by rw [List.getElem?_cons_succ, a, show k' + 1 + j = k' + (j + 1) by omega], ?_⟩
        rw [b, List.getElem?_set_ne (Ne.symm ne)]
    | un => exact h.elim
    | im d => exact h.elim
    | ls ds => exact h.elim
    | mt rows => exact h.elim

def adAft (ad ad2 : Ix → List Addr) (n : Nat) : Ix → List Addr
  | .inl i => ad (.inl i)
  | .inr k => if k < n then ad (.inr k) else if k = n then ad2 (.inr 0) else []
/-- a def is called: its promise over data -/
theorem ev_cal {A : List Sl → (Sl → List Sl → Prop) → Prop} {E : XK}
    (h : Ea K ta δ fun rs δ1 => ∃ δa, Ags δ1 0 rs = some δa ∧ ndB (bos rs) = true ∧ A δa fun s δa' => shp 0 rs δa' ∧ P (.sl s) (bks δ1 rs δa')) : Ev K (tCal (FD K A) E ta) δ P := fun W F H σ pd S Q q => by
  refine h W F H σ pd S _ fun F1 H1 vs rs δ1 h1 oks S1 => ?_
  obtain ⟨δa, ea, nd, hA⟩ := h1
  obtain ⟨F2, s2, S2, D2⟩ := Sat.frzArgs oks S1 ea
  obtain ⟨ad, S2⟩ := S2
  -- the lent slots
  have lent : ∀ j i, rs[j]? = some (.bo i) → ∃ p s ds, vs[j]? = some (.ref p) ∧ σ[i]? = some (some (.ref p)) ∧ δ1[i]? = some s ∧ s.lsts = some ds ∧ δa[j]? = some (.ln j ds) ∧ ad (.inl i) = [p] ∧ lents vs rs j = some p ∧
      ∃ xs, H1 p = some (.lst xs) ∧ DdAll K F2 xs ds := fun j i e => by
    obtain ⟨u, a1, a2⟩ := Ags_get ea e
    simp only [Nat.zero_add, Ag] at a2
    cases q1 : δ1[i]? with
    | none => rw [q1] at a2; cases a2
    | some s =>
      rw [q1] at a2
      have a2 : s.lsts.map (Sl.ln j) = some u := a2
      cases q2 : s.lsts with
      | none => rw [q2] at a2; cases a2
      | some ds =>
        rw [q2] at a2
        cases a2
        obtain ⟨v, e1, e2⟩ := oks.get e
        obtain ⟨w, e3, o⟩ := S2.slot q1 (fun z => by subst z; cases q2)
        have e2 : σ[i]? = some (some v) := e2
        rw [e2] at e3
        cases e3
        cases s with
        | ls es =>
          obtain ⟨p, xs, c1, c2, c3, c4, c5⟩ := o
          cases c1; cases q2
          exact ⟨p, _, _, e1, e2, rfl, rfl, a1, c2, lents_of e e1, xs, c3, c4⟩
        | ln k es =>
          obtain ⟨p, xs, c1, c2, c3, c4, c5⟩ := o
          cases c1; cases q2
          exact ⟨p, _, _, e1, e2, rfl, rfl, a1, c2, lents_of e e1, xs, c3, c4⟩
        | un => cases q2
        | im d => cases q2
        | mt rows => cases q2
  have A0 : ∀ a, Wd.A0 ⟨F2, H1, lents vs rs⟩ a → ∃ j i, rs[j]? = some (.bo i) ∧ ad (.inl i) = [a] ∧ lents vs rs j = some a := fun a ⟨j, e⟩ => by
    have e : lents vs rs j = some a := e
    obtain ⟨i, e1, e2⟩ := lents_some e
    obtain ⟨p, s, ds, b1, _, _, _, _, b6, b7, _⟩ := lent j i e1
    rw [b7] at e
    cases e
    exact ⟨j, i, e1, b6, b7⟩
  -- the callee's entry
  have hl : δa.length = vs.length := (Ags_len ea).trans oks.length.symm
  have entry : Sat K ⟨F2, H1, lents vs rs⟩ F2 H1 (vs.map some) δa [] := by
    refine ⟨fun x => match x with
      | .inl j => (match rs[j]? with | some (.bo i) => ad (.inl i) | _ => [])
      | .inr _ => [], by rw [hl, List.length_map], fun x => ?_, fun x y a ha hb => ?_, fun x => ?_, ?_⟩
    · cases x with
      | inr k => exact rfl
      | inl j =>
        show OwnS K _ F2 H1 (((vs.map some)[j]?).getD none) (match rs[j]? with | some (.bo i) => ad (.inl i) | _ => []) ((δa[j]?).getD .un)
        cases er : rs[j]? with
        | none =>
          have : δa[j]? = none := List.getElem?_eq_none (by rw [Ags_len ea]; exact List.getElem?_eq_none_iff.mp er)
          rw [this]; exact rfl
        | some r =>
          cases r with
          | bo i =>
            obtain ⟨p, s, ds, b1, b2, b3, b4, b5, b6, b7, xs, b8, b9⟩ := lent j i er
            rw [b5, List.getElem?_map, b1]
            exact ⟨p, xs, rfl, b6, b8, b9, b7⟩
          | sl s =>
            obtain ⟨u, a1, a2⟩ := Ags_get ea er
            have a2 : s.frd.map Sl.im = some u := a2
            cases q2 : s.frd with
            | none => rw [q2] at a2; cases a2
            | some d =>
              rw [q2] at a2
              cases a2
              obtain ⟨v, e1, _⟩ := oks.get er
              rw [a1, List.getElem?_map, e1]
              exact ⟨rfl, v, rfl, D2 j v d e1 a1⟩
    · have g : ∀ (x : Ix), a ∈ (match x with | .inl j => (match rs[j]? with | some (.bo i) => ad (.inl i) | _ => []) | .inr _ => [] : List Addr) → ∃ (j i : Nat), x = .inl j ∧ rs[j]? = some (Rs.bo i) ∧ a ∈ ad (.inl i) := fun x hx => by
        cases x with
        | inr k => cases hx
        | inl j =>
          have hx : a ∈ (match rs[j]? with | some (.bo i) => ad (.inl i) | _ => [] : List Addr) := hx
          cases er : rs[j]? with
          | none => rw [er] at hx; cases hx
          | some r =>
            rw [er] at hx
            cases r with
            | sl s => cases hx
            | bo i => exact ⟨j, i, rfl, rfl.trans er, hx⟩
      obtain ⟨j, i, e1, e2, e3⟩ := g x ha
      obtain ⟨j', i', e1', e2', e3'⟩ := g y hb
      have := S2.dis _ _ a e3 e3'
      cases this
      rw [e1, e1', bos_inj nd e2 e2']
    · cases x with
      | inr k => exact List.nodup_nil
      | inl j =>
        show (match rs[j]? with | some (.bo i) => ad (.inl i) | _ => [] : List Addr).Nodup
        cases er : rs[j]? with
        | none => exact List.nodup_nil
        | some r =>
          cases r with
          | sl s => exact List.nodup_nil
          | bo i => exact S2.nod _
    · have w := S2.wk
      have mem : ∀ a, (∃ x : Ix, a ∈ (match x with | .inl j => (match rs[j]? with | some (.bo i) => ad (.inl i) | _ => []) | .inr _ => [] : List Addr)) → ∃ (j i : Nat), rs[j]? = some (Rs.bo i) ∧ a ∈ ad (.inl i) := fun a ⟨x, hx⟩ => by
        cases x with
        | inr k => cases hx
        | inl j =>
          have hx : a ∈ (match rs[j]? with | some (.bo i) => ad (.inl i) | _ => [] : List Addr) := hx
          cases er : rs[j]? with
          | none => rw [er] at hx; cases hx
          | some r =>
            rw [er] at hx
            cases r with
            | sl s => cases hx
            | bo i => exact ⟨j, i, er, hx⟩
      refine ⟨w.FH, Same.refl _, fun a o e _ => e, fun a z => .inl z, fun a z => ?_, fun a z => ?_, fun a z => ?_⟩
      · obtain ⟨j, i, e1, e2, e3⟩ := A0 a z
        exact S2.there (x := .inl i) (by rw [e2]; simp)
      · obtain ⟨j, i, e1, e2⟩ := mem a z
        exact w.nF a ⟨_, e2⟩
      · obtain ⟨j, i, e1, e2⟩ := mem a z
        obtain ⟨p, s, ds, b1, b2, b3, b4, b5, b6, b7, _⟩ := lent j i e1
        rw [b6] at e2
        rw [show a = p by simpa using e2]
        exact .inl ⟨j, b7⟩
  refine ⟨F2, lents vs rs, δa, entry, _, hA, fun s δa' hq => ?_⟩
  obtain ⟨hsh, p⟩ := hq
  revert hsh p
  revert δa' s
  have adapt : ∀ s δa', shp 0 rs δa' → P (.sl s) (bks δ1 rs δa') → ∀ F' H' v, Sat K ⟨F2, H1, lents vs rs⟩ F' H' (vs.map some) δa' [(v, s)] → Q v H' := fun s δa' hsh p F' H' v S3 => by
    refine q F' H' v (.sl s) (bks δ1 rs δa') p trivial ?_
    show Sat K W F' H' σ (bks δ1 rs δa') (pd ++ [(v, s)])
    obtain ⟨ad2, S3⟩ := S3
    have w2 := S2.wk
    have w3 := S3.wk
    have notlent : ∀ x a, a ∈ ad x → (∀ (j i : Nat), rs[j]? = some (Rs.bo i) → x ≠ .inl i) → H' a = H1 a := fun x a ha hx => by
      cases e : H1 a with
      | none => exact absurd e (S2.there ha)
      | some o =>
        refine w3.frm a o e fun z => ?_
        obtain ⟨j, i, e1, e2, _⟩ := A0 a z
        exact hx j i e1 (S2.dis x _ a ha (by rw [e2]; simp))
    have resnew : ∀ a, a ∈ ad2 (.inr 0) → H1 a = none := fun a ha => by
      rcases w3.old a ⟨_, ha⟩ with z | z
      · obtain ⟨j, i, e1, e2, e3⟩ := A0 a z
        obtain ⟨p, s0, ds0, b1, b2, b3, _⟩ := lent j i e1
        obtain ⟨ds, c1, c2⟩ := bks_in (δ := δ1) hsh nd e1 (List.getElem?_eq_some_iff.mp b3).1
        rw [Nat.zero_add] at c1
        obtain ⟨v', _, o⟩ := S3.slot c1 (by intro z; cases z)
        obtain ⟨p', xs, f1, f2, f3, f4, f5⟩ := o
        have f5 : lents vs rs j = some p' := f5
        rw [e3] at f5
        cases f5
        have := S3.dis (.inl j) (.inr 0) a (by rw [f2]; simp) ha
        cases this
      · exact z
    have cells : ∀ x, x ≠ .inr pd.length → (∀ (j i : Nat), rs[j]? = some (Rs.bo i) → x ≠ .inl i) → cell σ (bks δ1 rs δa') (pd ++ [(v, s)]) x = cell σ δ1 pd x := fun x h1 h2 => by
      rw [cell_push_ne h1]
      cases x with
      | inr k => rfl
      | inl i =>
        show ((σ[i]?).getD none, ((bks δ1 rs δa')[i]?).getD .un) = ((σ[i]?).getD none, (δ1[i]?).getD .un)
        by_cases hb : i ∈ bos rs
        · exfalso
          have : ∀ (rs : List Rs), i ∈ bos rs → ∃ j : Nat, rs[j]? = some (Rs.bo i) := fun rs => by
            induction rs with
            | nil => intro z; cases z
            | cons r rs ih =>
              intro z
              cases r with
              | sl _ => obtain ⟨j, e⟩ := ih z; exact ⟨j + 1, by rw [List.getElem?_cons_succ]; exact e⟩
              | bo m =>
                rcases List.mem_cons.mp z with z | z
                · exact ⟨0, by rw [z]; rfl⟩
                · obtain ⟨j, e⟩ := ih z; exact ⟨j + 1, by simpa using e⟩
          obtain ⟨j, e⟩ := this rs hb
          exact h2 j i e rfl
        · rw [bks_out hb]
    have sF : Same F2 F' := w3.F0
    refine ⟨adAft ad ad2 pd.length, by rw [bks_len]; exact S2.len, fun x => ?_, fun x y a ha hb => ?_, fun x => ?_, ?_⟩
    · by_cases hx : x = .inr pd.length
      · subst hx
        rw [cell_push]
        have o := S3.own (.inr 0)
        show OwnS K W F' H' (some v) (if pd.length < pd.length then ad (.inr pd.length) else if pd.length = pd.length then ad2 (.inr 0) else []) s
        rw [if_neg (Nat.lt_irrefl _), if_pos rfl]
        have o : OwnS K ⟨F2, H1, lents vs rs⟩ F' H' (some v) (ad2 (.inr 0)) s := o
        have nA : ∀ a, a ∈ ad2 (.inr 0) → ¬ W.A0 a := fun a ha z => w2.dom a z (resnew a ha)
        cases s with
        | un => exact o
        | im d => exact o
        | ls ds => obtain ⟨p, xs, a1, a2, a3, a4, a5⟩ := o; exact ⟨p, xs, a1, a2, a3, a4, nA p (by rw [a2]; simp)⟩
        | ln k ds =>
          obtain ⟨p, xs, a1, a2, a3, a4, a5⟩ := o
          have hz := resnew p (by rw [a2]; simp)
          obtain ⟨j, i, e1, e2, _⟩ := A0 p ⟨k, a5⟩
          exact absurd hz (S2.there (x := .inl i) (by rw [e2]; simp))
        | mt rows => obtain ⟨p, bs, a1, a2, a3, a4, a5⟩ := o; exact ⟨p, bs, a1, a2, a3, a4, fun a ha => nA a (by rw [a2]; exact ha)⟩
      · by_cases hlx : ∀ (j i : Nat), rs[j]? = some (Rs.bo i) → x ≠ .inl i
        · rw [cells x hx hlx]
          have eqad : adAft ad ad2 pd.length x = ad x ∨ (cell σ δ1 pd x).2 = .un ∧ adAft ad ad2 pd.length x = [] := by
            cases x with
            | inl i => exact .inl rfl
            | inr k =>
              by_cases hk : k < pd.length
              · exact .inl (if_pos hk)
              · have hk2 : k ≠ pd.length := fun z => hx (by rw [z])
                refine .inr ⟨?_, ?_⟩
                · show (match pd[k]? with | some (v, s) => (some v, s) | none => (none, .un) : Option V × Sl).2 = .un
                  rw [List.getElem?_eq_none (by omega)]
                · show (if k < pd.length then ad (.inr k) else if k = pd.length then ad2 (.inr 0) else []) = []
                  rw [if_neg hk, if_neg hk2]
          rcases eqad with z | ⟨z1, z2⟩
          · rw [z]
            exact (S2.own x).keep sF fun a ha => notlent x a ha hlx
          · rw [z2, z1]; rfl
        · have : ∃ (j i : Nat), rs[j]? = some (Rs.bo i) ∧ x = .inl i := by
            apply Classical.byContradiction
            intro hn
            exact hlx fun j i e z => hn ⟨j, i, e, z⟩
          obtain ⟨j, i, e1, rfl⟩ := this
          obtain ⟨p, s0, ds0, b1, b2, b3, b4, b5, b6, b7, xs0, b8, b9⟩ := lent j i e1
          obtain ⟨ds, c1, c2⟩ := bks_in (δ := δ1) hsh nd e1 (List.getElem?_eq_some_iff.mp b3).1
          rw [Nat.zero_add] at c1
          obtain ⟨v', g1, o⟩ := S3.slot c1 (by intro z; cases z)
          obtain ⟨p', xs, f1, f2, f3, f4, f5⟩ := o
          have f5 : lents vs rs j = some p' := f5
          rw [b7] at f5
          cases f5
          have o1 := S2.own (.inl i)
          have ce : cell σ δ1 pd (.inl i) = (some (.ref p), s0) := by
            show ((σ[i]?).getD none, (δ1[i]?).getD .un) = _
            rw [b2, b3]; rfl
          rw [ce] at o1
          have ce2 : cell σ (bks δ1 rs δa') (pd ++ [(v, s)]) (.inl i) = (some (.ref p), s0.put ds) := by
            show ((σ[i]?).getD none, ((bks δ1 rs δa')[i]?).getD .un) = _
            rw [b2, c2, b3]; rfl
          rw [ce2]
          cases s0 with
          | ls es => obtain ⟨q1, xs1, h1, h2, h3, h4, h5⟩ := o1; cases h1; exact ⟨p, xs, rfl, h2, f3, f4, h5⟩
          | ln k es => obtain ⟨q1, xs1, h1, h2, h3, h4, h5⟩ := o1; cases h1; exact ⟨p, xs, rfl, h2, f3, f4, h5⟩
          | un => cases b4
          | im d => cases b4
          | mt rows => cases b4
    · have g : ∀ (x : Ix), a ∈ adAft ad ad2 pd.length x → (x ≠ .inr pd.length ∧ a ∈ ad x) ∨ (x = .inr pd.length ∧ a ∈ ad2 (.inr 0)) := fun x hx => by
        cases x with
        | inl i => exact .inl ⟨(by intro z; cases z), hx⟩
        | inr k =>
          have hx : a ∈ (if k < pd.length then ad (.inr k) else if k = pd.length then ad2 (.inr 0) else []) := hx
          by_cases hk : k < pd.length
          · rw [if_pos hk] at hx
            exact .inl ⟨fun z => by cases z; omega, hx⟩
          · rw [if_neg hk] at hx
            by_cases hk2 : k = pd.length
            · rw [if_pos hk2] at hx; exact .inr ⟨by rw [hk2], hx⟩
            · rw [if_neg hk2] at hx; cases hx
      rcases g x ha with ⟨x1, m1⟩ | ⟨x1, m1⟩ <;> rcases g y hb with ⟨y1, m2⟩ | ⟨y1, m2⟩
      · exact S2.dis x y a m1 m2
      · exact absurd (resnew a m2) (S2.there m1)
      · exact absurd (resnew a m1) (S2.there m2)
      · rw [x1, y1]
    · cases x with
      | inl i => exact S2.nod _
      | inr k =>
        show (if k < pd.length then ad (.inr k) else if k = pd.length then ad2 (.inr 0) else []).Nodup
        split
        · exact S2.nod _
        · split
          · exact S3.nod _
          · exact List.nodup_nil
    · have mem : ∀ a, (∃ x : Ix, a ∈ adAft ad ad2 pd.length x) → (∃ x, a ∈ ad x) ∨ a ∈ ad2 (.inr 0) := fun a ⟨x, hx⟩ => by
        cases x with
        | inl i => exact .inl ⟨_, hx⟩
        | inr k =>
          have hx : a ∈ (if k < pd.length then ad (.inr k) else if k = pd.length then ad2 (.inr 0) else []) := hx
          split at hx
          · exact .inl ⟨_, hx⟩
          · split at hx
            · exact .inr hx
            · cases hx
      refine ⟨w3.FH, w2.F0.trans sF, fun a o e na => ?_, fun a z => ?_, fun a z => ?_, fun a z => ?_, fun a z => ?_⟩
      · refine w3.frm a o (w2.frm a o e na) fun z => ?_
        obtain ⟨j, i, e1, e2, _⟩ := A0 a z
        rcases w2.old a ⟨.inl i, by rw [e2]; simp⟩ with z | z
        · exact na z
        · rw [z] at e; cases e
      · rcases w3.fsh a z with y | y
        · exact w2.fsh a y
        · exact .inr (w2.fresh y).1
      · cases e : H1 a with
        | none => exact absurd e (w2.dom a z)
        | some o =>
          by_cases y : Wd.A0 ⟨F2, H1, lents vs rs⟩ a
          · exact w3.dom a y
          · rw [w3.frm a o e y]; intro z; cases z
      · rcases mem a z with ⟨x, hx⟩ | hx
        · cases e : F' a with
          | none => rfl
          | some o =>
            rcases w3.fsh a (by rw [e]; intro z; cases z) with y | y
            · exact absurd (w2.nF a ⟨x, hx⟩) y
            · exact absurd y (S2.there hx)
        · exact w3.nF a ⟨_, hx⟩
      · rcases mem a z with ⟨x, hx⟩ | hx
        · exact w2.old a ⟨x, hx⟩
        · exact .inr (w2.fresh (resnew a hx)).1
  exact adapt
end
end Ek

/-! Ek5: statements, loops, comprehensions, the body of a def, over data. -/
namespace Ek
open PySem PySem.Spec PyProof.Rows L2

section
variable {K : PySem.W.Frag} {W : Wd} {F H F' H' : Hp} {σ σ' : L2.St} {δ δ' : List Sl} {pd pd' : List (V × Sl)} {ad : Ix → List Addr} {v : V} {s : Sl}
/-! ### slots take values -/
theorem cell_inr {k : Nat} (e : pd[k]? = some (v, s)) : cell σ δ pd (.inr k) = (some v, s) := by
  show (match pd[k]? with | some (v, s) => (some v, s) | none => (none, .un)) = _
  rw [e]
/-- a value at place k goes into slot i -/
theorem Sat.assignAt (h : Sat K W F H σ δ pd) {i k : Nat} (e : pd[k]? = some (v, s)) (hi : i < δ.length) : Sat K W F H (σ.set i (some v)) (δ.set i s) (pd.set k (v, .un)) := by
  obtain ⟨ad, h⟩ := h
  have hi2 : i < σ.length := by rw [← h.len]; exact hi
  have hk : k < pd.length := (List.getElem?_eq_some_iff.mp e).1
  have c0 : cell (σ.set i (some v)) (δ.set i s) (pd.set k (v, .un)) (.inl i) = (some v, s) := by
    show (((σ.set i (some v))[i]?).getD none, ((δ.set i s)[i]?).getD .un) = _
    rw [List.getElem?_set_self hi, List.getElem?_set_self hi2]; rfl
  have cn : ∀ j, j ≠ i → cell (σ.set i (some v)) (δ.set i s) (pd.set k (v, .un)) (.inl j) = cell σ δ pd (.inl j) := fun j hj => by
    show (((σ.set i (some v))[j]?).getD none, ((δ.set i s)[j]?).getD .un) = ((σ[j]?).getD none, (δ[j]?).getD .un)
    rw [List.getElem?_set_ne (Ne.symm hj), List.getElem?_set_ne (Ne.symm hj)]
  have cp : cell σ δ pd (.inr k) = (some v, s) := cell_inr e
  have ck : cell (σ.set i (some v)) (δ.set i s) (pd.set k (v, .un)) (.inr k) = (some v, .un) := cell_inr (by rw [List.getElem?_set_self hk])
  have cq : ∀ j, j ≠ k → cell (σ.set i (some v)) (δ.set i s) (pd.set k (v, .un)) (.inr j) = cell σ δ pd (.inr j) := fun j hj => by
    show (match (pd.set k (v, .un))[j]? with | some (v, s) => (some v, s) | none => (none, .un)) = (match pd[j]? with | some (v, s) => (some v, s) | none => (none, .un))
    rw [List.getElem?_set_ne (Ne.symm hj)]
  have oP : OwnS K W F H (some v) (ad (.inr k)) s := by
    have z := h.own (.inr k)
    rw [cp] at z; exact z
  refine h.change (.inl i) (ad (.inr k)) (by rw [List.length_set, List.length_set]; exact h.len) (fun x hx => ?_) ?_ (fun x hx hk2 a ha => ⟨fun hb => ?_, rfl⟩) (Same.refl _) (h.nod _) (h.wk.mono fun a ha => ?_)
  · cases x with
    | inl j => exact .inl (cn j fun e => hx (by rw [e]))
    | inr j =>
      by_cases hj : j = k
      · exact .inr (by rw [hj, ck])
      · exact .inl (cq j hj)
  · rw [c0]; exact oP
  · have e2 := h.dis x _ a ha hb
    subst e2
    rw [cp, ck] at hk2
    cases hk2
    rw [show ad (.inr k) = [] from oP] at ha
    cases ha
  · rcases ha with z | ⟨x, _, _, z⟩
    · exact ⟨_, z⟩
    · exact ⟨x, z⟩
/-- slot j's own goes into slot i -/
theorem Sat.move (h : Sat K W F H σ δ pd) {i j : Nat} (hj : σ[j]? = some (some v)) (e : δ[j]? = some s) (hi : i < δ.length) (ne : i ≠ j) : Sat K W F H (σ.set i (some v)) ((δ.set j .un).set i s) pd := by
  obtain ⟨ad, h⟩ := h
  have hi2 : i < σ.length := by rw [← h.len]; exact hi
  have c0 : cell (σ.set i (some v)) ((δ.set j .un).set i s) pd (.inl i) = (some v, s) := by
    show (((σ.set i (some v))[i]?).getD none, (((δ.set j .un).set i s)[i]?).getD .un) = _
    rw [List.getElem?_set_self hi2, List.getElem?_set_self (by rw [List.length_set]; exact hi)]; rfl
  have hjl : j < δ.length := (List.getElem?_eq_some_iff.mp e).1
  have cj : cell (σ.set i (some v)) ((δ.set j .un).set i s) pd (.inl j) = (some v, .un) := by
    show (((σ.set i (some v))[j]?).getD none, (((δ.set j .un).set i s)[j]?).getD .un) = _
    rw [List.getElem?_set_ne ne, List.getElem?_set_ne ne, List.getElem?_set_self hjl, hj]; rfl
  have cn : ∀ m, m ≠ i → m ≠ j → cell (σ.set i (some v)) ((δ.set j .un).set i s) pd (.inl m) = cell σ δ pd (.inl m) := fun m h1 h2 => by
    show (((σ.set i (some v))[m]?).getD none, (((δ.set j .un).set i s)[m]?).getD .un) = ((σ[m]?).getD none, (δ[m]?).getD .un)
    rw [List.getElem?_set_ne (Ne.symm h1), List.getElem?_set_ne (Ne.symm h1), List.getElem?_set_ne (Ne.symm h2)]
  have cs : cell σ δ pd (.inl j) = (some v, s) := by
    show ((σ[j]?).getD none, (δ[j]?).getD .un) = _
    rw [hj, e]; rfl
  have oP : OwnS K W F H (some v) (ad (.inl j)) s := by
    have z := h.own (.inl j)
    rw [cs] at z; exact z
  refine h.change (.inl i) (ad (.inl j)) (by rw [List.length_set, List.length_set, List.length_set]; exact h.len) (fun x hx => ?_) ?_ (fun x hx hk2 a ha => ⟨fun hb => ?_, rfl⟩) (Same.refl _) (h.nod _) (h.wk.mono fun a ha => ?_)
  · cases x with
    | inl m =>
      by_cases hm : m = j
      · exact .inr (by rw [hm, cj])
      · exact .inl (cn m (fun z => hx (by rw [z])) hm)
    | inr m => exact .inl rfl
  · rw [c0]; exact oP
  · have e2 := h.dis x _ a ha hb
    subst e2
    rw [cs, cj] at hk2
    cases hk2
    rw [show ad (.inl j) = [] from oP] at ha
    cases ha
  · rcases ha with z | ⟨x, _, _, z⟩
    · exact ⟨_, z⟩
    · exact ⟨x, z⟩
/-- a slot is forgotten -/
theorem Sat.forget (h : Sat K W F H σ δ pd) (i : Nat) : Sat K W F H σ (δ.set i .un) pd := by
  obtain ⟨ad, h⟩ := h
  by_cases hi : i < δ.length
  · have c0 : (cell σ (δ.set i .un) pd (.inl i)).2 = .un := by
      show ((δ.set i .un)[i]?).getD .un = _
      rw [List.getElem?_set_self hi]; rfl
    refine h.change (.inl i) [] (by rw [List.length_set]; exact h.len) (fun x hx => .inl ?_) (by rw [c0]; rfl) (fun x hx _ a _ => ⟨by simp, rfl⟩) (Same.refl _) List.nodup_nil (h.wk.mono fun a ha => ?_)
    · cases x with
      | inl m =>
        have hm : m ≠ i := fun z => hx (by rw [z])
        show ((σ[m]?).getD none, ((δ.set i .un)[m]?).getD .un) = ((σ[m]?).getD none, (δ[m]?).getD .un)
        rw [List.getElem?_set_ne (Ne.symm hm)]
      | inr m => rfl
    · rcases ha with z | ⟨x, _, _, z⟩
      · cases z
      · exact ⟨x, z⟩
  · rw [List.set_eq_of_length_le (by omega)]
    exact ⟨ad, h⟩
end

/-! ### statements -/
def asgS (δ : List Sl) (i : Nat) : Rs → List Sl
  | .sl s => δ.set i s
  | .bo j => if i = j then δ else (δ.set j .un).set i ((δ[j]?).getD .un)
section
variable {K : PySem.W.Frag} {W : Wd} {δ : List Sl} {N : Nd} {te ta tb : TE} {tt : TT} {ts tu : TS} {i j : Nat}
theorem Es.mono {N' : Nd} (h : Es K ts δ N) (k : ∀ W D, EndsOk K W N' D → EndsOk K W N D) : Es K ts δ N' := fun W F H σ S D q => h W F H σ S D (k W D q)
theorem sat_asg {F H : Hp} {σ : L2.St} {v : V} {r : Rs} (S : Sat K W F H σ δ [(v, r.pend)]) (ok : RsOk σ v r) (hi : i < δ.length) : Sat K W F H (σ.set i (some v)) (asgS δ i r) [] := by
  cases r with
  | sl s => exact (S.assignAt (k := 0) (v := v) (s := s) rfl hi).drop (pd := [])
  | bo j =>
    have ok : σ[j]? = some (some v) := ok
    have S0 : Sat K W F H σ δ [] := S.drop (pd := [])
    unfold asgS
    by_cases e : i = j
    · subst e
      show Sat K W F H _ (if i = i then δ else _) []
      rw [if_pos rfl]
      have : σ.set i (some v) = σ := by
        apply List.ext_getElem?
        intro m
        by_cases hm : m = i
        · rw [hm, List.getElem?_set_self (by rw [← S.len]; exact hi), ok]
        · rw [List.getElem?_set_ne (Ne.symm hm)]
      rw [this]; exact S0
    · show Sat K W F H _ (if i = j then δ else _) []
      rw [if_neg e]
      have hj : j < δ.length := by
        rw [S.len]
        exact (List.getElem?_eq_some_iff.mp ok).1
      have e2 : δ[j]? = some δ[j] := List.getElem?_eq_getElem hj
      rw [e2]
      exact S0.move ok e2 hi e
theorem es_asg (h : Ev K te δ fun r δ' => i < δ'.length ∧ N.nx (asgS δ' i r)) : Es K (tAsg te (gName i)) δ N := fun W F H σ S D D1 => by
  refine h W F H σ [] S _ fun F1 H1 v r δ1 h1 ok S1 => ?_
  exact D1.1 F1 H1 _ _ h1.2 (sat_asg S1 ok h1.1)
theorem es_seq (h : Es K ts δ { N with nx := fun δ' => Es K tu δ' N }) : Es K (tSeq ts tu) δ N := fun W F H σ S D D1 => by
  refine h W F H σ S _ ⟨fun F1 H1 σ1 δ1 n S1 => ?_, D1.2⟩
  exact n W F1 H1 σ1 S1 D D1
theorem es_if (h : Et K tt δ fun b δ' => (b = true → Es K ts δ' N) ∧ (b = false → Es K tu δ' N)) : Es K (tIfS tt ts tu) δ N := fun W F H σ S D D1 => by
  refine h W F H σ [] S _ fun F1 H1 b δ1 h1 S1 => ?_
  cases b with
  | true => exact iteT (h1.1 rfl W F1 H1 σ S1 D D1)
  | false => exact iteF (h1.2 rfl W F1 H1 σ S1 D D1)
theorem es_ret (h : Ev K te δ N.rt) : Es K (tRet te) δ N := fun W F H σ S D D1 => h W F H σ [] S _ fun F1 H1 v r δ1 h1 ok S1 => D1.2.1 F1 H1 σ v r δ1 h1 ok S1
theorem es_retN (h : N.rt (im .non) δ) : Es K tRetN δ N := fun W F H σ S D D1 => D1.2.1 F H σ .non (im .non) δ h trivial (S.pushIm .non)
theorem es_drop (h : Ev K te δ fun _ δ' => N.nx δ') : Es K (tDrop te) δ N := fun W F H σ S D D1 => h W F H σ [] S _ fun F1 H1 v r δ1 h1 ok S1 => D1.1 F1 H1 σ δ1 h1 (S1.drop (pd := []))
theorem es_next (h : N.nx δ) : Es K tNext δ N := fun W F H σ S D D1 => D1.1 F H σ δ h S
theorem es_brk (h : N.bk δ) : Es K tBreak δ N := fun W F H σ S D D1 => D1.2.2.1 F H σ δ h S
theorem es_cont (h : N.ct δ) : Es K tCont δ N := fun W F H σ S D D1 => D1.2.2.2 F H σ δ h S
theorem es_absurd (h : False) : Es K ts δ N := h.elim
/-- an own list becomes data -/
theorem es_frz (i : Nat) {s : Sl} {d : Dt} (e : δ[i]? = some s) (hs : s.frd = some d) (h : Es K ts (δ.set i (.im d)) N) : Es K ts δ N := fun W F H σ S D D1 => by
  obtain ⟨F', _, S'⟩ := S.frzSlot e hs
  exact h W F' H σ S' D D1
theorem es_fgt (i : Nat) (h : Es K ts (δ.set i .un) N) : Es K ts δ N := fun W F H σ S D D1 => h W F H σ (S.forget i) D D1
theorem ev_frz {P : Rs → List Sl → Prop} (i : Nat) {s : Sl} {d : Dt} (e : δ[i]? = some s) (hs : s.frd = some d) (h : Ev K te (δ.set i (.im d)) P) : Ev K te δ P := fun W F H σ pd S Q q => by
  obtain ⟨F', _, S'⟩ := S.frzSlot e hs
  exact h W F' H σ pd S' Q q
/-- a, b = e1, e2 -/
theorem es_par {ta : TA} (h : Ea K ta δ fun rs δ1 => ∃ s1 s2, rs = [.sl s1, .sl s2] ∧ i < δ1.length ∧ j < δ1.length ∧ N.nx ((δ1.set i s1).set j s2)) : Es K (tPar i j ta) δ N := fun W F H σ S D D1 => by
  refine h W F H σ [] S _ fun F1 H1 vs rs δ1 h1 oks S1 => ?_
  obtain ⟨s1, s2, rfl, hi, hj, n⟩ := h1
  obtain ⟨v1, e1, _⟩ := oks.get (j := 0) rfl
  obtain ⟨v2, e2, _⟩ := oks.get (j := 1) rfl
  have hl := oks.length
  match vs, e1, e2, hl, S1 with
  | [x, y], e1, e2, hl, S1 =>
    refine ⟨x, y, rfl, D1.1 F1 H1 _ _ n ?_⟩
    have A := S1.assignAt (k := 0) (v := x) (s := s1) (i := i) rfl hi
    have B := A.assignAt (k := 1) (v := y) (s := s2) (i := j) rfl (by rw [List.length_set]; exact hj)
    exact B.drop (pd := [])
theorem es_par3 {l : Nat} {ta : TA} (h : Ea K ta δ fun rs δ1 => ∃ s1 s2 s3, rs = [.sl s1, .sl s2, .sl s3] ∧ i < δ1.length ∧ j < δ1.length ∧ l < δ1.length ∧ N.nx (((δ1.set i s1).set j s2).set l s3)) : Es K (tPar3 i j l ta) δ N := fun W F H σ S D D1 => by
  refine h W F H σ [] S _ fun F1 H1 vs rs δ1 h1 oks S1 => ?_
  obtain ⟨s1, s2, s3, rfl, hi, hj, hl', n⟩ := h1
  have hl := oks.length
  match vs, hl, S1 with
  | [x, y, z], hl, S1 =>
    refine ⟨x, y, z, rfl, D1.1 F1 H1 _ _ n ?_⟩
    have A := S1.assignAt (k := 0) (v := x) (s := s1) (i := i) rfl hi
    have B := A.assignAt (k := 1) (v := y) (s := s2) (i := j) rfl (by rw [List.length_set]; exact hj)
    have C := B.assignAt (k := 2) (v := z) (s := s3) (i := l) rfl (by rw [List.length_set, List.length_set]; exact hl')
    exact C.drop (pd := [])
end

/-! ### targets -/
def Eg (K : PySem.W.Frag) (g : TG) (d : Dt) (δ : List Sl) (js : List Nat) (P : List Sl → Prop) : Prop :=
  ∀ W F H σ pd v, Sat K W F H σ δ pd → Dd K F v d → ∀ Q : L2.St → Hp → Prop, (∀ σ' δ', P δ' → σ'.length = σ.length → (∀ j, j ∉ js → σ'[j]? = σ[j]?) → Sat K W F H σ' δ' pd → Q σ' H) → g v σ H Q
def Egs (K : PySem.W.Frag) (g : TGs) (ds : List Dt) (δ : List Sl) (js : List Nat) (P : List Sl → Prop) : Prop :=
  ∀ W F H σ pd vs, Sat K W F H σ δ pd → DdAll K F vs ds → ∀ Q : L2.St → Hp → Prop, (∀ σ' δ', P δ' → σ'.length = σ.length → (∀ j, j ∉ js → σ'[j]? = σ[j]?) → Sat K W F H σ' δ' pd → Q σ' H) → g vs σ H Q
section
variable {K : PySem.W.Frag} {W : Wd} {δ : List Sl} {P : List Sl → Prop} {d : Dt} {ds : List Dt} {i n : Nat} {g : TG} {gs : TGs} {js ks : List Nat}
theorem Sat.setIm {F H : Hp} {σ : L2.St} {pd : List (V × Sl)} {v : V} (S : Sat K W F H σ δ pd) (hd : Dd K F v d) (hi : i < δ.length) : Sat K W F H (σ.set i (some v)) (δ.set i (.im d)) pd := by
  have A := (S.pushIm hd).assign (i := i) hi
  exact A
theorem eg_name (hi : i < δ.length) (p : P (δ.set i (.im d))) : Eg K (gName i) d δ [i] P := fun W F H σ pd v S hd Q q =>
  q _ _ p (by rw [List.length_set]) (fun j hj => by rw [List.getElem?_set_ne (fun z => hj (by rw [z]; simp))]) (S.setIm hd hi)
theorem egs_nil (p : P δ) : Egs K gNil [] δ [] P := fun W F H σ pd vs S hd Q q => by
  cases hd
  exact ⟨rfl, q σ δ p rfl (fun _ _ => rfl) S⟩
theorem egs_cons (h : Eg K g d δ js fun δ1 => Egs K gs ds δ1 ks P) : Egs K (gCons g gs) (d :: ds) δ (js ++ ks) P := fun W F H σ pd vs S hd Q q => by
  cases hd with
  | cons h1 h2 =>
    rename_i v vs
    refine ⟨v, vs, rfl, h W F H σ pd v S h1 _ fun σ1 δ1 p1 l1 k1 S1 => ?_⟩
    refine p1 W F H σ1 pd vs S1 h2 Q fun σ2 δ2 p2 l2 k2 S2 => q σ2 δ2 p2 (l2.trans l1) (fun j hj => ?_) S2
    rw [k2 j fun z => hj (List.mem_append_right _ z), k1 j fun z => hj (List.mem_append_left _ z)]
theorem eg_tup (hn : ds.length = n) (h : Egs K gs ds δ js P) : Eg K (gTup K n gs) (.tup ds) δ js P := fun W F H σ pd v S hd Q q => by
  cases hd with
  | tup h1 h2 => exact ⟨_, _, rfl, sqT_mono S.FH h1, by rw [h2.length]; exact hn, h W F H σ pd _ S h2 Q q⟩
/-- a tuple taken apart -/
theorem es_asgT {te : TE} {N : Nd} (h : Ev K te δ fun r δ' => ∃ ds js, r = im (.tup ds) ∧ Eg K (gTup K n gs) (.tup ds) δ' js N.nx) : Es K (tAsg te (gTup K n gs)) δ N := fun W F H σ S D D1 => by
  refine h W F H σ [] S _ fun F1 H1 v r δ1 h1 ok S1 => ?_
  obtain ⟨ds, js, rfl, h1⟩ := h1
  have hd := S1.popIm (k := 0) (v := v) (d := .tup ds) rfl
  exact h1 W F1 H1 σ [] v (S1.drop (pd := [])) hd _ fun σ' δ' p _ _ S' => D1.1 F1 H1 σ' δ' p S'
end

/-! ### what is walked -/
def YD (K : PySem.W.Frag) (F : Hp) (ds : List Dt) (i : Nat) (H : Hp) (x : V) (H' : Hp) : Prop :=
  ∃ d, ds[i]? = some d ∧ ((H' = H ∧ Dd K F x d) ∨ ∃ T xs es, d = .tup es ∧ x = .ref T ∧ H T = none ∧ H' = upd H T (.tup xs) ∧ DdAll K F xs es)
def WalkD (K : PySem.W.Frag) (F : Hp) (J : It) (ds : List Dt) : Prop := Walk J ds.length (fun H => Same F H) (YD K F ds)
def Ei (K : PySem.W.Frag) (wi : TI) (δ : List Sl) (P : List Dt → List Sl → Prop) : Prop :=
  ∀ W F H σ pd, Sat K W F H σ δ pd → ∀ R : It → Hp → Prop, (∀ F' H' J ds δ', P ds δ' → Sat K W F' H' σ δ' pd → WalkD K F' J ds → R J H') → wi σ H R
section
variable {K : PySem.W.Frag} {W : Wd} {δ : List Sl} {N : Nd} {wi : TI} {g : TG} {tb : TS}
theorem WalkD.mono {F F' : Hp} {J : It} {ds : List Dt} (h : WalkD K F J ds) (s : Same F F') : WalkD K F' J ds :=
  Walk.mono h (fun H q => s.trans q) fun i H x H' _ _ y => by
    obtain ⟨d, e, q⟩ := y
    refine ⟨d, e, q.imp (fun z => ⟨z.1, z.2.mono s⟩) fun z => ?_⟩
    obtain ⟨T, xs, es, a, b, c, f, k⟩ := z
    exact ⟨T, xs, es, a, b, c, f, k.mono s⟩
/-- the item of a turn has come -/
theorem Sat.item {F H H' : Hp} {σ : L2.St} {pd : List (V × Sl)} {ds : List Dt} {i : Nat} {x : V} (S : Sat K W F H σ δ pd) {F0 : Hp} (sF : Same F0 F) (y : YD K F0 ds i H x H') :
    ∃ d F', ds[i]? = some d ∧ Same F F' ∧ Sat K W F' H' σ δ pd ∧ Dd K F' x d := by
  obtain ⟨d, e, ⟨rfl, hd⟩ | ⟨T, xs, es, rfl, rfl, hT, rfl, hx⟩⟩ := y
  · exact ⟨d, F, e, Same.refl _, S, hd.mono sF⟩
  · obtain ⟨S1, s1⟩ := S.newT hT (hx.mono sF)
    exact ⟨_, _, e, s1, S1.drop, S1.popIm (k := pd.length) (by simp)⟩
/-- the same world, all that is frozen now being frozen from the start -/
def Wd.re (W : Wd) (F : Hp) : Wd := { W with F0 := F }
theorem OwnS.reW {F H : Hp} {o : Option V} {as : List Addr} {s : Sl} {W' : Wd} (h : OwnS K W F H o as s) (e : W'.A = W.A) : OwnS K W' F H o as s := by
  have e0 : ∀ a, W'.A0 a ↔ W.A0 a := fun a => by unfold Wd.A0; rw [e]
  cases s with
  | un => exact h
  | im d => exact h
  | ls ds => obtain ⟨p, xs, a1, a2, a3, a4, a5⟩ := h; exact ⟨p, xs, a1, a2, a3, a4, fun z => a5 ((e0 p).mp z)⟩
  | ln k ds => obtain ⟨p, xs, a1, a2, a3, a4, a5⟩ := h; exact ⟨p, xs, a1, a2, a3, a4, by rw [e]; exact a5⟩
  | mt rows => obtain ⟨p, bs, a1, a2, a3, a4, a5⟩ := h; exact ⟨p, bs, a1, a2, a3, a4, fun a ha z => a5 a ha ((e0 a).mp z)⟩
theorem Sat.re {F H : Hp} {σ : L2.St} {pd : List (V × Sl)} (S : Sat K W F H σ δ pd) : Sat K (W.re F) F H σ δ pd := by
  obtain ⟨ad, S⟩ := S
  have w := S.wk
  exact ⟨ad, S.len, fun x => (S.own x).reW rfl, S.dis, S.nod, w.FH, Same.refl _, w.frm, fun a z => .inl z, w.dom, w.nF, w.old⟩
theorem Sat.unre {F F1 H H1 : Hp} {σ σ1 : L2.St} {δ1 : List Sl} {pd pd1 : List (V × Sl)} (S1 : Sat K W F1 H1 σ1 δ1 pd1) (S : Sat K (W.re F1) F H σ δ pd) : Sat K W F H σ δ pd ∧ Same F1 F := by
  obtain ⟨ad1, S1⟩ := S1
  obtain ⟨ad, S⟩ := S
  have w := S.wk
  have w1 := S1.wk
  refine ⟨⟨ad, S.len, fun x => (S.own x).reW rfl, S.dis, S.nod, w.FH, w1.F0.trans w.F0, w.frm, fun a z => ?_, w.dom, w.nF, w.old⟩, w.F0⟩
  rcases w.fsh a z with y | y
  · exact w1.fsh a y
  · exact .inr y
/-- a block run where all that is frozen now stays told -/
theorem Es.at {ts : TS} {F H : Hp} {σ : L2.St} {N : Nd} {D : Ends} (h : Es K ts δ N) (S : Sat K W F H σ δ [])
    (e1 : ∀ F' H' σ' δ', N.nx δ' → Sat K W F' H' σ' δ' [] → Same F F' → D.nx σ' H')
    (e2 : ∀ F' H' σ' v r δ', N.rt r δ' → RsOk σ' v r → Sat K W F' H' σ' δ' [(v, r.pend)] → Same F F' → D.rt v H')
    (e3 : ∀ F' H' σ' δ', N.bk δ' → Sat K W F' H' σ' δ' [] → Same F F' → D.bk σ' H')
    (e4 : ∀ F' H' σ' δ', N.ct δ' → Sat K W F' H' σ' δ' [] → Same F F' → D.ct σ' H') : ts D σ H :=
  h (W.re F) F H σ S.re D ⟨fun F' H' σ' δ' n S' => let ⟨a, b⟩ := Sat.unre S S'; e1 F' H' σ' δ' n a b, fun F' H' σ' v r δ' n k S' => let ⟨a, b⟩ := Sat.unre S S'; e2 F' H' σ' v r δ' n k a b,
    fun F' H' σ' δ' n S' => let ⟨a, b⟩ := Sat.unre S S'; e3 F' H' σ' δ' n a b, fun F' H' σ' δ' n S' => let ⟨a, b⟩ := Sat.unre S S'; e4 F' H' σ' δ' n a b⟩
theorem es_for (h : Ei K wi δ fun ds δ1 => ∃ (I : Nat → List Sl → Prop) (js : List Nat), I 0 δ1 ∧
    (∀ i d δ', ds[i]? = some d → I i δ' → Eg K g d δ' js fun δ2 => Es K tb δ2 { N with nx := I (i + 1), ct := I (i + 1), bk := N.nx }) ∧ (∀ δ', I ds.length δ' → N.nx δ')) : Es K (tFor wi g tb) δ N := fun W F H σ S D D1 => by
  refine h W F H σ [] S _ fun F1 H1 J ds δ1 h1 S1 w => ?_
  obtain ⟨I, js, h0, hs, hd⟩ := h1
  refine for_it w (fun i σ' H' => ∃ F' δ', Same F1 F' ∧ I i δ' ∧ Sat K W F' H' σ' δ' []) ⟨F1, δ1, Same.refl _, h0, S1⟩ (fun i σ' H' _ ⟨F', δ', s, _, S'⟩ => s.trans S'.FH) (fun i x σ' Ha Hb hi ⟨F', δ', s, hI, S'⟩ y => ?_) fun σ' H' ⟨F', δ', s, hI, S'⟩ => D1.1 F' H' σ' δ' (hd δ' hI) S'
  obtain ⟨d, F2, e, s2, S2, hdd⟩ := S'.item s y
  refine hs i d δ' e hI W F2 Hb σ' [] x S2 hdd _ fun σ2 δ2 p _ _ S3 => ?_
  exact Es.at p S3 (fun F3 H3 σ3 δ3 n S4 z => ⟨F3, δ3, (s.trans s2).trans z, n, S4⟩) (fun F3 H3 σ3 v r δ3 n k S4 _ => D1.2.1 F3 H3 σ3 v r δ3 n k S4)
    (fun F3 H3 σ3 δ3 n S4 _ => D1.1 F3 H3 σ3 δ3 n S4) (fun F3 H3 σ3 δ3 n S4 z => ⟨F3, δ3, (s.trans s2).trans z, n, S4⟩)
/-- while: I by a number that falls -/
theorem es_while {tc : TT} (I : Nat → List Sl → Prop) (m0 : Nat) (h0 : I m0 δ)
    (hs : ∀ m δ', I m δ' → Et K tc δ' fun b δ2 => (b = true → Es K tb δ2 { N with nx := fun δ3 => ∃ m', m' < m ∧ I m' δ3, ct := fun δ3 => ∃ m', m' < m ∧ I m' δ3, bk := N.nx }) ∧ (b = false → N.nx δ2)) : Es K (tWhile tc tb) δ N := fun W F H σ S D D1 => by
  refine ⟨fun m σ' H' => ∃ F' δ', I m δ' ∧ Sat K W F' H' σ' δ' [], ⟨m0, F, δ, h0, S⟩, fun m σ' H' ⟨F', δ', hI, S'⟩ => ?_⟩
  refine hs m δ' hI W F' H' σ' [] S' _ fun F1 H1 b δ1 h1 S1 => ?_
  cases b with
  | false => exact iteF (D1.1 F1 H1 σ' δ1 (h1.2 rfl) S1)
  | true =>
    refine iteT ⟨fun σ2 H2 => ∃ m' F2 δ2, m' < m ∧ I m' δ2 ∧ Sat K W F2 H2 σ2 δ2 [], fun σ2 H2 ⟨m', F2, δ2, a, b, c⟩ => ⟨m', a, F2, δ2, b, c⟩, ?_⟩
    exact h1.1 rfl W F1 H1 σ' S1 _ ⟨fun F2 H2 σ2 δ2 n S2 => let ⟨m', a, b⟩ := n; ⟨m', F2, δ2, a, b, S2⟩, D1.2.1, D1.1, fun F2 H2 σ2 δ2 n S2 => let ⟨m', a, b⟩ := n; ⟨m', F2, δ2, a, b, S2⟩⟩
end
end Ek

/-! Ek6: comprehensions, what is walked, the body of a def, over data. -/
namespace Ek
open PySem PySem.Spec PyProof.Rows L2

section
variable {K : PySem.W.Frag} {W : Wd} {F H F' H' : Hp} {σ σ' : L2.St} {δ δ' : List Sl} {pd pd' : List (V × Sl)} {ad : Ix → List Addr} {v : V} {s : Sl}
theorem Sat.putPd (h : Sat K W F H σ δ pd) {k : Nat} {p : Addr} {ds : List Dt} (e : pd[k]? = some (.ref p, .ls ds)) :
    ∃ xs, H p = some (.lst xs) ∧ DdAll K F xs ds ∧ ∀ xs' ds', DdAll K F xs' ds' → Sat K W F (upd H p (.lst xs')) σ δ (pd.set k (.ref p, .ls ds')) := by
  obtain ⟨ad, h⟩ := h
  have hk : k < pd.length := (List.getElem?_eq_some_iff.mp e).1
  have o := h.own (.inr k)
  rw [cell_inr e] at o
  obtain ⟨q, xs, e1, k1, k2, k3, k4⟩ := o
  cases e1
  refine ⟨xs, k2, k3, fun xs' ds' hd => ?_⟩
  have c1 : cell σ δ (pd.set k (.ref p, .ls ds')) (.inr k) = (some (.ref p), .ls ds') := cell_inr (by rw [List.getElem?_set_self hk])
  have cn : ∀ x, x ≠ .inr k → cell σ δ (pd.set k (.ref p, .ls ds')) x = cell σ δ pd x := fun x hx => by
    cases x with
    | inl j => rfl
    | inr j =>
      have hj : j ≠ k := fun z => hx (by rw [z])
      show (match (pd.set k (.ref p, .ls ds'))[j]? with | some (v, s) => (some v, s) | none => (none, .un)) = (match pd[j]? with | some (v, s) => (some v, s) | none => (none, .un))
      rw [List.getElem?_set_ne (Ne.symm hj)]
  refine h.change (.inr k) [p] h.len (fun x hx => .inl (cn x hx)) ?_ (fun x hx _ a ha => ?_) (Same.refl _) (by simp) ?_
  · rw [c1]; exact ⟨p, xs', rfl, rfl, upd_same, hd, k4⟩
  · have ne : a ≠ p := fun z => by
      subst z
      exact hx (h.dis x (.inr k) a ha (by rw [k1]; simp))
    exact ⟨by simpa using ne, upd_ne ne⟩
  · refine (h.wk.put (p := p) ⟨.inr k, by rw [k1]; simp⟩).mono fun a ha => ?_
    rcases ha with z | ⟨x, _, _, z⟩
    · exact ⟨.inr k, by rw [k1]; exact z⟩
    · exact ⟨x, z⟩
def wipeS (δ : List Sl) : List Nat → List Sl
  | [] => δ
  | v :: vs => (wipeS δ vs).set v .un
theorem wipeS_len : ∀ vs, (wipeS δ vs).length = δ.length
  | [] => rfl
  | v :: vs => by rw [wipeS, List.length_set, wipeS_len vs]
theorem wipeS_out : ∀ {vs : List Nat} {i : Nat}, i ∉ vs → (wipeS δ vs)[i]? = δ[i]?
  | [], _, _ => rfl
  | v :: vs, i, h => by
    rw [wipeS, List.getElem?_set_ne (fun z => h (by rw [z]; exact List.mem_cons_self ..)), wipeS_out fun z => h (List.mem_cons_of_mem _ z)]
theorem wipeS_in : ∀ {vs : List Nat} {i : Nat}, i ∈ vs → ((wipeS δ vs)[i]?).getD .un = .un
  | v :: vs, i, h => by
    by_cases e : i = v
    · subst e
      rw [wipeS]
      by_cases hl : i < (wipeS δ vs).length
      · rw [List.getElem?_set_self hl]; rfl
      · rw [List.getElem?_eq_none (by rw [List.length_set]; omega)]; rfl
    · rw [wipeS, List.getElem?_set_ne (Ne.symm e)]
      exact wipeS_in ((List.mem_cons.mp h).resolve_left e)
theorem wipe_out : ∀ {vs : List Nat} {i : Nat}, i ∉ vs → (wipe σ vs)[i]? = σ[i]?
  | [], _, _ => rfl
  | v :: vs, i, h => by
    rw [wipe, List.getElem?_set_ne (fun z => h (by rw [z]; exact List.mem_cons_self ..)), wipe_out fun z => h (List.mem_cons_of_mem _ z)]
/-- slots that say nothing may hold anything -/
theorem Sat.other (h : Sat K W F H σ δ pd) (hl : σ'.length = σ.length) (hd : δ'.length = δ.length) (k : ∀ i : Nat, (δ'[i]?).getD Sl.un = Sl.un ∨ (δ'[i]? = δ[i]? ∧ σ'[i]? = σ[i]?)) : Sat K W F H σ' δ' pd := by
  obtain ⟨ad, h⟩ := h
  have ce : cell σ' δ' pd (.inr pd.length) = (none, .un) := cell_end
  refine h.change (.inr pd.length) [] (by rw [hd, hl]; exact h.len) (fun x hx => ?_) (by rw [ce]; exact rfl) (fun x _ _ a _ => ⟨by simp, rfl⟩) (Same.refl _) List.nodup_nil (h.wk.mono fun a ha => ?_)
  · cases x with
    | inr m => exact .inl rfl
    | inl i =>
      rcases k i with z | ⟨z1, z2⟩
      · exact .inr z
      · left
        show ((σ'[i]?).getD none, (δ'[i]?).getD .un) = ((σ[i]?).getD none, (δ[i]?).getD .un)
        rw [z1, z2]
  · rcases ha with z | ⟨x, _, _, z⟩
    · cases z
    · exact ⟨x, z⟩
theorem Sat.wipe (h : Sat K W F H σ δ pd) (vs : List Nat) : Sat K W F H (L2.wipe σ vs) (wipeS δ vs) pd :=
  h.other (wipe_length σ vs) (wipeS_len vs) fun i => by
    by_cases hi : i ∈ vs
    · exact .inl (wipeS_in hi)
    · exact .inr ⟨wipeS_out hi, wipe_out hi⟩
theorem wipe_eq : ∀ (vs : List Nat), σ'.length = σ.length → (∀ j, j ∉ vs → σ'[j]? = σ[j]?) → L2.wipe σ' vs = L2.wipe σ vs := fun vs hl h => by
  apply List.ext_getElem?
  intro i
  by_cases hi : i ∈ vs
  · have g : ∀ (τ : L2.St) (vs : List Nat), i ∈ vs → i < τ.length → (L2.wipe τ vs)[i]? = some none := fun τ vs => by
      induction vs with
      | nil => intro z; cases z
      | cons v vs ih =>
        intro z hlt
        by_cases e : i = v
        · subst e
          rw [L2.wipe, List.getElem?_set_self (by rw [wipe_length]; exact hlt)]
        · rw [L2.wipe, List.getElem?_set_ne (Ne.symm e)]
          exact ih ((List.mem_cons.mp z).resolve_left e) hlt
    by_cases hlt : i < σ.length
    · rw [g σ' vs hi (by omega), g σ vs hi hlt]
    · rw [List.getElem?_eq_none (by rw [wipe_length]; omega), List.getElem?_eq_none (by rw [wipe_length]; omega)]
  · rw [wipe_out hi, wipe_out hi, h i hi]
theorem wipe_wipe (vs : List Nat) : L2.wipe (L2.wipe σ vs) vs = L2.wipe σ vs := wipe_eq vs (wipe_length σ vs) fun j hj => wipe_out hj
end

section
variable {K : PySem.W.Frag} {δ : List Sl} {wi : TI} {g : TG} {tt : TT} {te : TE} {vs : List Nat} {P : Rs → List Sl → Prop}
/-- [e for x in xs if t]; the comprehension's own slots say nothing ahead and behind -/
theorem ev_lc (h : Ei K wi δ fun ds δ1 => ∃ (I : Nat → List Dt → List Sl → Prop) (js : List Nat), (∀ j ∈ js, j ∈ vs) ∧ (∀ j ∈ vs, (δ1[j]?).getD .un = .un) ∧ I 0 [] δ1 ∧
    (∀ i d acc δ', ds[i]? = some d → I i acc δ' → acc.length < sizeLine ∧ Eg K g d δ' js fun δ2 => Et K tt δ2 fun b δ3 => (b = true → Ev K te δ3 fun r δ4 => ∃ e, r.fd = some e ∧ I (i + 1) (acc ++ [e]) (wipeS δ4 vs)) ∧ (b = false → I (i + 1) acc (wipeS δ3 vs))) ∧
    (∀ acc δ', I ds.length acc δ' → (∀ j ∈ vs, (δ'[j]?).getD .un = .un) → P (.sl (.ls acc)) δ')) : Ev K (tLc wi g tt te vs) δ P := fun W F H σ pd S Q q => by
  refine h W F H σ pd S _ fun F1 H1 J ds δ1 h1 S1 w D hD => ?_
  obtain ⟨I, js, hj, hu, h0, hs, hd⟩ := h1
  have un0 : ∀ δ' : List Sl, δ'.length = δ1.length → (∀ j ∈ vs, (δ'[j]?).getD .un = .un) → ∀ i, (δ'[i]?).getD .un = .un ∨ i ∉ vs := fun δ' _ hz i => by
    by_cases hi : i ∈ vs
    · exact .inl (hz i hi)
    · exact .inr hi
  have base : Sat K W F1 (upd H1 D (.lst [])) (wipe σ vs) δ1 (pd ++ [(.ref D, .ls [])]) := by
    have A := S1.newLs (ds := []) (xs := []) hD .nil
    refine A.other (wipe_length σ vs) rfl fun i => ?_
    rcases un0 δ1 rfl hu i with z | z
    · exact .inl z
    · exact .inr ⟨rfl, wipe_out z⟩
  refine lc_it w (fun i H' => ∃ F' δ' acc, Same F1 F' ∧ I i acc δ' ∧ δ'.length = δ1.length ∧ (∀ j ∈ vs, (δ'[j]?).getD .un = .un) ∧ Sat K W F' H' (wipe σ vs) δ' (pd ++ [(.ref D, .ls acc)]))
    ⟨F1, δ1, [], Same.refl _, h0, rfl, hu, base⟩ (fun i H' _ ⟨F', δ', acc, s, _, _, _, S'⟩ => s.trans S'.FH) (fun i x Ha Hb hi ⟨F', δ', acc, s, hI, hl, hz, S'⟩ y => ?_) fun H' ⟨F', δ', acc, s, hI, hl, hz, S'⟩ => ?_
  · obtain ⟨d, F2, e, s2, S2, hdd⟩ := S'.item s y
    obtain ⟨hlim, hE⟩ := hs i d acc δ' e hI
    refine hE W F2 Hb (wipe σ vs) _ x S2 hdd _ fun σ2 δ2 p l2 k2 S3 => ?_
    have ew : wipe σ2 vs = wipe σ vs := (wipe_eq vs l2 fun j hj2 => k2 j fun z => hj2 (hj j z)).trans (wipe_wipe vs)
    refine ⟨ew, ?_⟩
    have fin : ∀ F3 H3 δ3 acc3, Sat K W F3 H3 σ2 δ3 (pd ++ [(.ref D, .ls acc3)]) → Same F1 F3 → I (i + 1) acc3 (wipeS δ3 vs) →
        ∃ F' δ' acc, Same F1 F' ∧ I (i + 1) acc δ' ∧ δ'.length = δ1.length ∧ (∀ j ∈ vs, (δ'[j]?).getD .un = .un) ∧ Sat K W F' H3 (wipe σ vs) δ' (pd ++ [(.ref D, .ls acc)]) := fun F3 H3 δ3 acc3 S4 s4 hI4 => by
      refine ⟨F3, wipeS δ3 vs, acc3, s4, hI4, ?_, fun j hj2 => wipeS_in hj2, ?_⟩
      · rw [wipeS_len, S4.len, l2, wipe_length, S1.len]
      · rw [← ew]; exact S4.wipe vs
    refine p (W.re F2) F2 Hb σ2 _ S3.re _ fun F3 H3 b δ3 h3 S4 => ?_
    obtain ⟨S4, s4⟩ := S3.unre S4
    cases b with
    | false => exact iteF (fin F3 H3 δ3 acc S4 ((s.trans s2).trans s4) (h3.2 rfl))
    | true =>
      refine iteT (h3.1 rfl (W.re F3) F3 H3 σ2 _ S4.re _ fun F4 H4 v r δ4 h4 ok S5 => ?_)
      obtain ⟨S5, s5⟩ := S4.unre S5
      obtain ⟨e1, hf, hI4⟩ := h4
      cases r with
      | bo i => cases hf
      | sl s0 =>
        obtain ⟨F5, s6, S6⟩ := S5.frzPd (k := (pd ++ [(V.ref D, Sl.ls acc)]).length) (v := v) (s := s0) (d := e1) (by simp [Rs.pend]) hf
        have eq : (pd ++ [(V.ref D, Sl.ls acc)] ++ [(v, (Rs.sl s0).pend)]).set (pd ++ [(V.ref D, Sl.ls acc)]).length (v, Sl.im e1) = (pd ++ [(V.ref D, Sl.ls acc)]) ++ [(v, Sl.im e1)] := by
          rw [List.set_append_right _ _ (Nat.le_refl _), Nat.sub_self]
          rfl
        rw [eq] at S6
        have hv : Dd K F5 v e1 := S6.popIm (k := (pd ++ [(V.ref D, Sl.ls acc)]).length) (by simp)
        have S7 := S6.drop
        obtain ⟨xs, x1, x2, x3⟩ := S7.putPd (k := pd.length) (p := D) (ds := acc) (by simp)
        refine ⟨xs, x1, by rw [x2.length]; exact hlim, ?_⟩
        have S8 := x3 _ _ (x2.snoc hv)
        have eq2 : (pd ++ [(V.ref D, Sl.ls acc)]).set pd.length (V.ref D, Sl.ls (acc ++ [e1])) = pd ++ [(V.ref D, Sl.ls (acc ++ [e1]))] := by
          rw [List.set_append_right _ _ (Nat.le_refl _), Nat.sub_self]
          rfl
        rw [eq2] at S8
        exact fin F5 _ δ4 _ S8 ((((s.trans s2).trans s4).trans s5).trans s6) hI4
  · refine q F' H' (.ref D) (.sl (.ls acc)) δ' (hd acc δ' hI hz) trivial ?_
    refine S'.other (wipe_length σ vs).symm rfl fun i => ?_
    rcases un0 δ' hl hz i with z | z
    · exact .inl z
    · exact .inr ⟨rfl, (wipe_out z).symm⟩
end

/-! ### what is walked -/
section
variable {X : Cx} {tg l : Expr} {tl : TE}
/-- a list, a tuple, a text -/
def iAny (K : PySem.W.Frag) (tl : TE) : TI := fun σ H R => tl σ H fun x H1 =>
  (∃ a, x = .ref a ∧ (∃ xs, SqL K H1 a xs) ∧ R (Itl K a) H1) ∨ (∃ a, x = .ref a ∧ (∃ xs, SqT K H1 a xs) ∧ R (Itt K a) H1) ∨ ∃ z, x = .str z ∧ R (Its z) H1
theorem pi_any (hl : PE X l tl) : PI X tg l (iAny X.K tl) := by
  refine ⟨fun pins s σ H R I h => ?_⟩
  refine thn (hl.run pins s σ H _ I h) fun v s1 hh => ?_
  obtain ⟨x, H1, I1, r1, q1⟩ := hh
  rcases q1 with ⟨a, rfl, ⟨xs, hq⟩, q⟩ | ⟨a, rfl, ⟨xs, hq⟩, q⟩ | ⟨z, rfl, q⟩
  · cases r1
    obtain ⟨its, rv, p, hz⟩ := I1.list hq
    exact wpAny_pyIter_list p.isList (pi_one (tk := s1.toks) I1 _ (turn_list a _) ⟨_, Heap.get?_push_size _ rfl, rfl, rfl⟩ q)
  · cases r1
    obtain ⟨its, rv, p, hz⟩ := I1.tuple hq
    exact wpAny_pyIter_tuple (show s1.heap.IsTuple a its.toArray from p) (pi_one (tk := s1.toks) I1 _ (turn_tuple a _) ⟨_, Heap.get?_push_size _ rfl, rfl, rfl⟩ q)
  · obtain ⟨t, rfl⟩ := r1
    cases ha : z.cps.all (· < 128)
    · exact wpAny_pyIter_wide ha (pi_one (tk := s1.toks) I1 _ (turn_str _ z t "str_iterator" (.inr rfl)) ⟨_, Heap.get?_push_size _ rfl, rfl, rfl⟩ q)
    · exact wpAny_pyIter_ascii ha (pi_one (tk := s1.toks) I1 _ (turn_str _ z t "str_ascii_iterator" (.inl rfl)) ⟨_, Heap.get?_push_size _ rfl, rfl, rfl⟩ q)
end
/-- the signs of a text -/
def signsD (z : Str) : List Dt := z.cps.toList.map fun c => .str ⟨#[c]⟩
def Rs.fit : Rs → Option (List Dt)
  | .sl (.im (.tup ds)) => some ds
  | .sl (.im (.lst ds)) => some ds
  | .sl (.im (.sq ds)) => some ds
  | .sl (.ls ds) => some ds
  | .sl (.im (.str z)) => some (signsD z)
  | _ => none
section
variable {K : PySem.W.Frag} {δ : List Sl} {te : TE} {ta : TA} {PI' : List Dt → List Sl → Prop}
theorem walkL {F : Hp} {a : Addr} {xs : List V} {ds : List Dt} (h : SqL K F a xs) (hd : DdAll K F xs ds) : WalkD K F (Itl K a) ds := by
  have w := walk_list (K := K) (a := a) (xs := xs)
  unfold WalkD
  rw [← hd.length]
  refine w.mono (fun H s => s.seq h) fun i H x H' _ _ y => ?_
  obtain ⟨d, e, q⟩ := hd.getV y.2
  exact ⟨d, e, .inl ⟨y.1, q⟩⟩
theorem walkT {F : Hp} {a : Addr} {xs : List V} {ds : List Dt} (h : SqT K F a xs) (hd : DdAll K F xs ds) : WalkD K F (Itt K a) ds := by
  have w := walk_tup (K := K) (a := a) (xs := xs)
  unfold WalkD
  rw [← hd.length]
  refine w.mono (fun H s => sqT_mono s h) fun i H x H' _ _ y => ?_
  obtain ⟨d, e, q⟩ := hd.getV y.2
  exact ⟨d, e, .inl ⟨y.1, q⟩⟩
theorem walkS {F : Hp} {z : Str} : WalkD K F (Its z) (signsD z) := by
  unfold WalkD
  have e : (signsD z).length = z.cps.size := by unfold signsD; rw [List.length_map, Array.length_toList]
  rw [e]
  refine walk_str.mono (fun _ _ => trivial) fun i H x H' _ _ y => ?_
  obtain ⟨rfl, c, hc, rfl⟩ := y
  refine ⟨.str ⟨#[c]⟩, ?_, .inl ⟨rfl, .str _⟩⟩
  unfold signsD
  rw [List.getElem?_map, Array.getElem?_toList, hc]
  rfl
theorem ei_any (h : Ev K te δ fun r δ' => ∃ ds, r.fit = some ds ∧ PI' ds δ') : Ei K (iAny K te) δ PI' := fun W F H σ pd S R q => by
  refine h W F H σ pd S _ fun F1 H1 v r δ1 h1 ok S1 => ?_
  obtain ⟨ds, e, p⟩ := h1
  cases r with
  | bo i => cases e
  | sl s =>
    cases s with
    | un => cases e
    | ln k es => cases e
    | mt rows => cases e
    | ls es =>
      have e' : ds = es := (Option.some.inj e).symm
      subst e'
      obtain ⟨F2, s2, S2⟩ := S1.frzPd (k := pd.length) (v := v) (s := .ls ds) (d := .lst ds) (by simp [Rs.pend]) rfl
      have eq : (pd ++ [(v, (Rs.sl (Sl.ls ds)).pend)]).set pd.length (v, Sl.im (.lst ds)) = pd ++ [(v, Sl.im (.lst ds))] := by
        rw [List.set_append_right _ _ (Nat.le_refl _), Nat.sub_self]; rfl
      rw [eq] at S2
      have hd := S2.popIm (k := pd.length) (v := v) (d := .lst ds) (by simp)
      cases hd with
      | lst h1 h2 => exact .inl ⟨_, rfl, ⟨_, SqL.of (S2.FH _ _ h1)⟩, q F2 H1 _ _ δ1 p S2.drop (walkL (SqL.of h1) h2)⟩
    | im d =>
      have hd := S1.popIm (k := pd.length) (v := v) (d := d) (by simp [Rs.pend])
      cases hd with
      | tup h1 h2 => cases e; exact .inr (.inl ⟨_, rfl, ⟨_, sqT_mono S1.FH h1⟩, q F1 H1 _ _ δ1 p S1.drop (walkT h1 h2)⟩)
      | lst h1 h2 => cases e; exact .inl ⟨_, rfl, ⟨_, SqL.of (S1.FH _ _ h1)⟩, q F1 H1 _ _ δ1 p S1.drop (walkL (SqL.of h1) h2)⟩
      | sq h1 h2 => cases e; exact .inl ⟨_, rfl, ⟨_, S1.FH.seq h1⟩, q F1 H1 _ _ δ1 p S1.drop (walkL h1 h2)⟩
      | str z => cases e; exact .inr (.inr ⟨z, rfl, q F1 H1 _ _ δ1 p S1.drop walkS⟩)
      | _ => cases e
/-- the numbers lo, lo + c, .. -/
def rngD (lo c : Int) (n : Nat) : List Dt := (List.range n).map fun i => .int (lo + (i : Nat) * c)
theorem rngD_len {lo c : Int} {n : Nat} : (rngD lo c n).length = n := by unfold rngD; rw [List.length_map, List.length_range]
theorem rngD_get {lo c : Int} {n i : Nat} {d : Dt} (h : (rngD lo c n)[i]? = some d) : i < n ∧ d = .int (lo + (i : Nat) * c) := by
  unfold rngD at h
  rw [List.getElem?_map] at h
  by_cases hi : i < n
  · rw [List.getElem?_range hi] at h
    exact ⟨hi, (Option.some.inj h).symm⟩
  · rw [List.getElem?_eq_none (by rw [List.length_range]; omega)] at h
    cases h
theorem walkR {F : Hp} {lo : Int} {n : Nat} : WalkD K F (Itr lo n) (rngD lo 1 n) := by
  unfold WalkD
  rw [rngD_len]
  refine walk_range.mono (fun _ _ => trivial) fun i H x H' hi _ y => ?_
  obtain ⟨rfl, rfl⟩ := y
  refine ⟨.int (lo + (i : Nat) * 1), ?_, .inl ⟨rfl, ?_⟩⟩
  · unfold rngD; rw [List.getElem?_map, List.getElem?_range hi]; rfl
  · rw [Int.mul_one]; exact .int _
theorem walkC {F : Hp} {lo c : Int} {n : Nat} : WalkD K F (Itc lo c n) (rngD lo c n) := by
  unfold WalkD
  rw [rngD_len]
  refine walk_rangeC.mono (fun _ _ => trivial) fun i H x H' hi _ y => ?_
  obtain ⟨rfl, rfl⟩ := y
  refine ⟨.int (lo + (i : Nat) * c), ?_, .inl ⟨rfl, .int _⟩⟩
  unfold rngD; rw [List.getElem?_map, List.getElem?_range hi]; rfl
/-- the values of an argument list, plain -/
theorem Sat.args {W : Wd} {F H : Hp} {σ : L2.St} {pd : List (V × Sl)} : ∀ {vs : List V} {ds : List Dt} {pd : List (V × Sl)}, RsAll σ vs (ds.map im) → Sat K W F H σ δ (pd ++ pends vs (ds.map im)) → DdAll K F vs ds
  | _, [], pd, .nil, S => .nil
  | _, d :: ds, pd, .cons (v := v) (vs := vs) a b, S => by
    have S : Sat K W F H σ δ (pd ++ (v, .im d) :: pends vs (ds.map im)) := S
    have eq : pd ++ (v, Sl.im d) :: pends vs (ds.map im) = (pd ++ [(v, Sl.im d)]) ++ pends vs (ds.map im) := by simp
    rw [eq] at S
    exact .cons (S.popIm (k := pd.length) (by simp [List.getElem?_append])) (Sat.args (W := W) (pd := pd) b S)
theorem ei_rng1 (h : Ea K ta δ fun rs δ' => ∃ n : Int, rs = [im (.int n)] ∧ -(2 ^ 62) ≤ n ∧ n < 2 ^ 62 ∧ PI' (rngD 0 1 n.toNat) δ') : Ei K (iRng1 ta) δ PI' := fun W F H σ pd S R q => by
  refine h W F H σ pd S _ fun F1 H1 vs rs δ1 h1 oks S1 => ?_
  obtain ⟨n, rfl, a, b, p⟩ := h1
  have D := Sat.args (ds := [.int n]) (pd := pd) oks S1
  cases D with
  | cons d1 d2 =>
    cases d2; cases d1
    exact ⟨n, rfl, a, b, q F1 H1 _ _ δ1 p S1.drop walkR⟩
theorem ei_rng2 (h : Ea K ta δ fun rs δ' => ∃ m n : Int, rs = [im (.int m), im (.int n)] ∧ (-(2 ^ 62) ≤ m ∧ m < 2 ^ 62 ∧ -(2 ^ 62) ≤ n ∧ n < 2 ^ 62) ∧ PI' (rngD m 1 (n - m).toNat) δ') : Ei K (iRng2 ta) δ PI' := fun W F H σ pd S R q => by
  refine h W F H σ pd S _ fun F1 H1 vs rs δ1 h1 oks S1 => ?_
  obtain ⟨m, n, rfl, a, p⟩ := h1
  have D := Sat.args (ds := [.int m, .int n]) (pd := pd) oks S1
  cases D with
  | cons d1 d2 =>
    cases d2 with
    | cons d2 d3 =>
      cases d3; cases d2; cases d1
      exact ⟨m, n, rfl, a, q F1 H1 _ _ δ1 p S1.drop walkR⟩
theorem ei_rng3 (h : Ea K ta δ fun rs δ' => ∃ (m n c : Int) (k : Nat), rs = [im (.int m), im (.int n), im (.int c)] ∧ RgC m n c k ∧ PI' (rngD m c k) δ') : Ei K (iRng3 ta) δ PI' := fun W F H σ pd S R q => by
  refine h W F H σ pd S _ fun F1 H1 vs rs δ1 h1 oks S1 => ?_
  obtain ⟨m, n, c, k, rfl, a, p⟩ := h1
  have D := Sat.args (ds := [.int m, .int n, .int c]) (pd := pd) oks S1
  cases D with
  | cons d1 d2 =>
    cases d2 with
    | cons d2 d3 =>
      cases d3 with
      | cons d3 d4 =>
        cases d4; cases d3; cases d2; cases d1
        exact ⟨m, n, c, k, rfl, a, q F1 H1 _ _ δ1 p S1.drop walkC⟩
end
end Ek

/-! Ek7: a def by its body, over data. -/
namespace Ek
open PySem PySem.Spec PyProof.Rows L2

/-- where the k-th lent list stands now -/
def findLn (k : Nat) : List Sl → Option (Nat × List Dt)
  | [] => none
  | .ln j ds :: r => if j = k then some (0, ds) else (findLn k r).map fun x => (x.1 + 1, x.2)
  | _ :: r => (findLn k r).map fun x => (x.1 + 1, x.2)
theorem findLn_get : ∀ {δ : List Sl} {k i : Nat} {ds : List Dt}, findLn k δ = some (i, ds) → δ[i]? = some (.ln k ds)
  | [], _, _, _, h => by cases h
  | s :: r, k, i, ds, h => by
    have key : (findLn k r).map (fun x => (x.1 + 1, x.2)) = some (i, ds) → (s :: r)[i]? = some (.ln k ds) := fun e => by
      cases q : findLn k r with
      | none => rw [q] at e; cases e
      | some x =>
        rw [q] at e
        obtain ⟨m, es⟩ := x
        cases e
        rw [List.getElem?_cons_succ]
        exact findLn_get q
    cases s with
    | ln j es =>
      by_cases e : j = k
      · subst e
        rw [show findLn j (.ln j es :: r) = some (0, es) from if_pos rfl] at h
        cases h
        rfl
      · rw [show findLn k (.ln j es :: r) = (findLn k r).map fun x => (x.1 + 1, x.2) from if_neg e] at h
        exact key h
    | un => exact key h
    | im d => exact key h
    | ls es => exact key h
    | mt rows => exact key h
def lnBack (δ' : List Sl) : Sl → Sl
  | .ln k _ => match findLn k δ' with
    | some x => .ln k x.2
    | none => .un
  | .im d => .im d
  | _ => .un
def lnOf (δ' δa : List Sl) : List Sl := δa.map (lnBack δ')
def resOf (δ' : List Sl) : Rs → Option Sl
  | .sl s => some s
  | .bo i => match δ'[i]? with
    | some (.ls ds) => some (.ls ds)
    | some (.mt rows) => some (.mt rows)
    | _ => none
section
variable {K : PySem.W.Frag} {W : Wd} {F H F' H' : Hp} {σ σ' : L2.St} {δ δ' δa : List Sl} {pd pd' : List (V × Sl)} {ad : Ix → List Addr} {v : V} {s : Sl} {r : Rs} {vs : List V}
def adR (ad' : Ix → List Addr) (δ' δa : List Sl) (r : Rs) : Ix → List Addr
  | .inl j => match δa[j]? with
    | some (.ln k _) => match findLn k δ' with
      | some x => ad' (.inl x.1)
      | none => []
    | _ => []
  | .inr 0 => match r with
    | .sl _ => ad' (.inr 0)
    | .bo i => ad' (.inl i)
  | .inr (_ + 1) => []
theorem adR_inl {ad' : Ix → List Addr} {j : Nat} {a : Addr} (h : a ∈ adR ad' δ' δa r (.inl j)) : ∃ k es i ds, δa[j]? = some (.ln k es) ∧ findLn k δ' = some (i, ds) ∧ a ∈ ad' (.inl i) := by
  have h : a ∈ (match δa[j]? with | some (.ln k _) => (match findLn k δ' with | some x => ad' (.inl x.1) | none => []) | _ => [] : List Addr) := h
  cases e : δa[j]? with
  | none => rw [e] at h; cases h
  | some s =>
    rw [e] at h
    cases s with
    | ln k es =>
      have h : a ∈ (match findLn k δ' with | some x => ad' (.inl x.1) | none => [] : List Addr) := h
      cases q : findLn k δ' with
      | none => rw [q] at h; cases h
      | some x =>
        rw [q] at h
        exact ⟨k, es, x.1, x.2, rfl, q, h⟩
    | un => cases h
    | im d => cases h
    | ls es => cases h
    | mt rows => cases h
theorem Sat.ret {F0 : Hp} (S0 : Sat K W F0 H (vs.map some) δa []) (eW : W.F0 = F0) (S : Sat K W F' H' σ' δ' [(v, r.pend)]) (ok : RsOk σ' v r) (hr : resOf δ' r = some s) :
    Sat K W F' H' (vs.map some) (lnOf δ' δa) [(v, s)] := by
  obtain ⟨ad0, S0⟩ := S0
  obtain ⟨ad', S⟩ := S
  have inr0 : ∀ a, a ∈ adR ad' δ' δa r (.inr 0) → (∃ i, r = .bo i ∧ a ∈ ad' (.inl i)) ∨ a ∈ ad' (.inr 0) := fun a ha => by
    cases r with
    | sl _ => exact .inr ha
    | bo i => exact .inl ⟨i, rfl, ha⟩
  have notLn : ∀ i k ds, r = .bo i → δ'[i]? = some (.ln k ds) → False := fun i k ds e1 e2 => by
    subst e1
    rw [show resOf δ' (.bo i) = (match δ'[i]? with | some (.ls ds) => some (.ls ds) | some (.mt rows) => some (.mt rows) | _ => none) from rfl, e2] at hr
    cases hr
  have mem : ∀ x a, a ∈ adR ad' δ' δa r x → ∃ y, a ∈ ad' y := fun x a ha => by
    cases x with
    | inl j => obtain ⟨k, es, i, ds, _, _, h⟩ := adR_inl ha; exact ⟨_, h⟩
    | inr k =>
      cases k with
      | zero =>
        rcases inr0 a ha with ⟨i, _, h⟩ | h
        · exact ⟨_, h⟩
        · exact ⟨_, h⟩
      | succ k => cases ha
  refine ⟨adR ad' δ' δa r, by rw [lnOf, List.length_map]; exact S0.len, fun x => ?_, fun x y a ha hb => ?_, fun x => ?_, S.wk.mono fun a ⟨x, hx⟩ => mem x a hx⟩
  · cases x with
    | inl j =>
      show OwnS K W F' H' (((vs.map some)[j]?).getD none) _ (((lnOf δ' δa)[j]?).getD .un)
      cases e : δa[j]? with
      | none =>
        have e2 : (lnOf δ' δa)[j]? = none := by rw [lnOf, List.getElem?_map, e]; rfl
        rw [e2]
        show (match δa[j]? with | some (.ln k _) => (match findLn k δ' with | some x => ad' (.inl x.1) | none => []) | _ => [] : List Addr) = []
        rw [e]
      | some s0 =>
        have e2 : (lnOf δ' δa)[j]? = some (lnBack δ' s0) := by rw [lnOf, List.getElem?_map, e]; rfl
        rw [e2]
        have ea : adR ad' δ' δa r (.inl j) = (match (some s0 : Option Sl) with | some (.ln k _) => (match findLn k δ' with | some x => ad' (.inl x.1) | none => []) | _ => [] : List Addr) := by
          rw [← e]; rfl
        rw [ea]
        cases s0 with
        | un => exact rfl
        | im d =>
          obtain ⟨v0, e3, _, w, e4, q⟩ := S0.slot e (by intro z; cases z)
          cases e4
          rw [e3]
          refine ⟨rfl, v0, rfl, q.mono ?_⟩
          rw [← eW]; exact S.wk.F0
        | ls es => exact rfl
        | mt rows => exact rfl
        | ln k es =>
          obtain ⟨v0, e3, p, xs, e4, _, _, _, e5⟩ := S0.slot e (by intro z; cases z)
          cases e4
          rw [e3]
          show OwnS K W F' H' _ (match findLn k δ' with | some x => ad' (.inl x.1) | none => []) (match findLn k δ' with | some x => .ln k x.2 | none => .un)
          cases q : findLn k δ' with
          | none => exact rfl
          | some x =>
            obtain ⟨i, ds⟩ := x
            obtain ⟨v1, _, o⟩ := S.slot (findLn_get q) (by intro z; cases z)
            obtain ⟨p', xs', f1, f2, f3, f4, f5⟩ := o
            rw [f5] at e5
            cases e5
            exact ⟨p, xs', rfl, f2, f3, f4, f5⟩
    | inr k =>
      cases k with
      | succ k => exact rfl
      | zero =>
        show OwnS K W F' H' (some v) (adR ad' δ' δa r (.inr 0)) s
        cases r with
        | sl s1 =>
          cases hr
          exact S.own (.inr 0)
        | bo i =>
          have ok : σ'[i]? = some (some v) := ok
          have hr : (match δ'[i]? with | some (.ls ds) => some (.ls ds) | some (.mt rows) => some (.mt rows) | _ => none : Option Sl) = some s := hr
          cases e : δ'[i]? with
          | none => rw [e] at hr; cases hr
          | some s1 =>
            rw [e] at hr
            cases s1 with
            | ls ds =>
              cases hr
              obtain ⟨v1, e3, o⟩ := S.slot e (by intro z; cases z)
              rw [ok] at e3
              cases e3
              exact o
            | mt rows =>
              cases hr
              obtain ⟨v1, e3, o⟩ := S.slot e (by intro z; cases z)
              rw [ok] at e3
              cases e3
              exact o
            | un => cases hr
            | im d => cases hr
            | ln k ds => cases hr
  · have zero : ∀ k, a ∈ adR ad' δ' δa r (.inr k) → k = 0 := fun k h => by
      cases k with
      | zero => rfl
      | succ k => cases h
    cases x with
    | inl j =>
      obtain ⟨k, es, i, ds, a1, a2, a3⟩ := adR_inl ha
      cases y with
      | inl j' =>
        obtain ⟨k', es', i', ds', b1, b2, b3⟩ := adR_inl hb
        have := S.dis _ _ a a3 b3
        cases this
        have g1 := findLn_get a2
        have g2 := findLn_get b2
        rw [g1] at g2
        cases g2
        obtain ⟨v0, _, p, xs, _, e6, _, _, e5⟩ := S0.slot a1 (by intro z; cases z)
        obtain ⟨v0', _, p', xs', _, e6', _, _, e5'⟩ := S0.slot b1 (by intro z; cases z)
        rw [e5] at e5'
        cases e5'
        have := S0.dis (.inl j) (.inl j') p (by rw [e6]; simp) (by rw [e6']; simp)
        exact this
      | inr m =>
        have hm := zero m hb
        subst hm
        exfalso
        rcases inr0 a hb with ⟨i', e, h⟩ | h
        · have := S.dis _ _ a a3 h
          cases this
          exact notLn _ _ _ e (findLn_get a2)
        · have := S.dis _ _ a a3 h
          cases this
    | inr m =>
      have hm := zero m ha
      subst hm
      cases y with
      | inl j' =>
        exfalso
        obtain ⟨k', es', i', ds', b1, b2, b3⟩ := adR_inl hb
        rcases inr0 a ha with ⟨i, e, h⟩ | h
        · have := S.dis _ _ a b3 h
          cases this
          exact notLn _ _ _ e (findLn_get b2)
        · have := S.dis _ _ a b3 h
          cases this
      | inr m' =>
        have hm := zero m' hb
        subst hm
        rfl
  · cases x with
    | inl j =>
      show (match δa[j]? with | some (.ln k _) => (match findLn k δ' with | some x => ad' (.inl x.1) | none => []) | _ => [] : List Addr).Nodup
      split
      · split
        · exact S.nod _
        · exact List.nodup_nil
      · exact List.nodup_nil
    | inr k =>
      cases k with
      | zero =>
        cases r with
        | sl _ => exact S.nod _
        | bo i => exact S.nod _
      | succ k => exact List.nodup_nil
theorem Sat.extend {σ2 : L2.St} {δ2 : List Sl} (S : Sat K W F H σ δ []) (hl : δ2.length = σ2.length) (k : ∀ (i : Nat) (s : Sl), δ2[i]? = some s → s = .un ∨ ∃ v d, σ2[i]? = some (some v) ∧ s = .im d ∧ Dd K F v d) : Sat K W F H (σ ++ σ2) (δ ++ δ2) [] := by
  obtain ⟨ad, S⟩ := S
  refine ⟨fun x => match x with
    | .inl i => if i < δ.length then ad (.inl i) else []
    | .inr _ => [], by rw [List.length_append, List.length_append, hl, S.len], fun x => ?_, fun x y a ha hb => ?_, fun x => ?_, S.wk.mono fun a ⟨x, hx⟩ => ?_⟩
  · cases x with
    | inr m => exact rfl
    | inl i =>
      show OwnS K W F H (((σ ++ σ2)[i]?).getD none) (if i < δ.length then ad (.inl i) else []) (((δ ++ δ2)[i]?).getD .un)
      by_cases hi : i < δ.length
      · rw [if_pos hi, List.getElem?_append_left hi, List.getElem?_append_left (by rw [← S.len]; exact hi)]
        exact S.own (.inl i)
      · have hi2 : σ.length ≤ i := by rw [← S.len]; omega
        rw [if_neg hi, List.getElem?_append_right hi2, List.getElem?_append_right (by omega), ← S.len]
        cases e : δ2[i - δ.length]? with
        | none => exact rfl
        | some s =>
          rcases k _ s e with rfl | ⟨v, d, e2, rfl, hd⟩
          · exact rfl
          · rw [e2]; exact ⟨rfl, v, rfl, hd⟩
  · have g : ∀ x : Ix, a ∈ (match x with | .inl i => if i < δ.length then ad (.inl i) else [] | .inr _ => [] : List Addr) → a ∈ ad x := fun x h => by
      cases x with
      | inr m => cases h
      | inl i =>
        have h : a ∈ (if i < δ.length then ad (.inl i) else []) := h
        split at h
        · exact h
        · cases h
    exact S.dis x y a (g x ha) (g y hb)
  · cases x with
    | inr m => exact List.nodup_nil
    | inl i =>
      show (if i < δ.length then ad (.inl i) else []).Nodup
      split
      · exact S.nod _
      · exact List.nodup_nil
  · cases x with
    | inr m => cases hx
    | inl i =>
      have h : a ∈ (if i < δ.length then ad (.inl i) else []) := hx
      split at h
      · exact ⟨_, h⟩
      · cases h
end

/-- what a def's body is to leave -/
def Nret (δa : List Sl) (q : Sl → List Sl → Prop) : Nd :=
  { nx := fun δ' => q (.im .non) (lnOf δ' δa), rt := fun r δ' => ∃ s, resOf δ' r = some s ∧ q s (lnOf δ' δa) }
section
variable {P : Program} {w : World} {K : PySem.W.Frag} {mg : Str → Option Value} {base : Heap} {k : Nat} {x : Str}
theorem cal_fd {A : List Sl → (Sl → List Sl → Prop) → Prop} {st : Stmt} {f : Addr} {fd : FuncData} {N ps : List Str} {dvs : List V} {ds : List Value} (n : Nat) (es : List Dt)
    (F : Fn K x st f fd) (hm : mg x = some (.ref f)) (S : FnScope N ps (defScope st)) (hb : Binds K fd ps ds) (hd : Vals dvs ds)
    (hes : dvs.map vd = es.map some) (hn : n + dvs.length = ps.length) (len : ∀ δa q, A δa q → δa.length = n)
    (body : ∀ (cdv : Value) (Ar : Around) (outer : List Env) (s : Shared) (H : Hp) (E : XK), Ar.guards = some [] → Room k (Ar.deeper (envOfC x (defScope st) s.heap.objs.size f cdv)) →
      ∃ t, PSs (cxOf CX0 P w K mg base N x (defScope st) f cdv Ar outer s H E).nox (defBody st) t ∧ ∀ δa q, A δa q → Es K t (δa ++ (es.map Sl.im ++ List.replicate (N.length - ps.length) .un)) (Nret δa q)) :
    CalR P w K mg base CX0 (k + 1) x (FD K A) := by
  have lens : ∀ vs H Q E, FD K A vs H Q E → vs.length = n := fun vs H Q E h => by
    obtain ⟨F, Ad, δa, S0, q, hA, _⟩ := h
    have := len δa q hA
    have l2 := S0.len
    rw [List.length_map] at l2
    omega
  refine cal_of F hm S hb hd (fun vs H Q E h => by rw [List.length_append, lens vs H Q E h, hn]) fun cdv Ar outer s H vs Q E hG hr hsp => ?_
  have lv := lens vs H Q E hsp
  obtain ⟨t, ht, hE⟩ := body cdv Ar outer s H E hG hr
  refine ⟨t, ht, ?_⟩
  obtain ⟨F, Ad, δa, S0, q, hA, hq⟩ := hsp
  have le : es.length = dvs.length := by
    have := congrArg List.length hes
    simpa using this.symm
  have S1 : Sat K ⟨F, H, Ad⟩ F H (L2.start N (vs ++ dvs)) (δa ++ (es.map Sl.im ++ List.replicate (N.length - ps.length) .un)) [] := by
    have e1 : L2.start N (vs ++ dvs) = vs.map some ++ (dvs.map some ++ List.replicate (N.length - ps.length) none) := by
      unfold L2.start
      rw [List.map_append, List.append_assoc, List.length_append, lv, hn]
    rw [e1]
    refine S0.extend (by rw [List.length_append, List.length_append, List.length_map, List.length_map, List.length_replicate, List.length_replicate, le]) fun i s e => ?_
    by_cases hi : i < es.length
    · right
      rw [List.getElem?_append_left (by rw [List.length_map]; exact hi), List.getElem?_map] at e
      have e2 : (es.map some)[i]? = some (some es[i]) := by rw [List.getElem?_map, List.getElem?_eq_getElem hi]; rfl
      rw [← hes, List.getElem?_map] at e2
      have hi2 : i < dvs.length := by omega
      rw [List.getElem?_eq_getElem hi2] at e2
      rw [List.getElem?_eq_getElem hi] at e
      cases e
      refine ⟨dvs[i], es[i], ?_, rfl, vd_dd (by simpa using e2)⟩
      rw [List.getElem?_append_left (by rw [List.length_map]; exact hi2), List.getElem?_map, List.getElem?_eq_getElem hi2]
      rfl
    · left
      rw [List.getElem?_append_right (by rw [List.length_map]; omega), List.getElem?_replicate] at e
      split at e
      · cases e; rfl
      · cases e
  refine hE δa q hA ⟨F, H, Ad⟩ F H _ S1 _ ⟨fun F' H' σ' δ' n' S' => ?_, fun F' H' σ' v r δ' n' ok S' => ?_, fun F' H' σ' δ' n' S' => n'.elim, fun F' H' σ' δ' n' S' => n'.elim⟩
  · have S2 : Sat K ⟨F, H, Ad⟩ F' H' σ' δ' [(V.non, (im .non).pend)] := S'.pushIm .non
    exact hq _ _ n' F' H' .non (Sat.ret S0 rfl S2 trivial rfl)
  · obtain ⟨s', e, n'⟩ := n'
    exact hq _ _ n' F' H' v (Sat.ret S0 rfl S' ok e)
end
end Ek

/-! Ek8: operations of any type, at the program's level. -/
namespace Ek
open PySem PySem.Spec PyProof.Rows L2 HT

/-! ### t[::-1] -/
section
variable {prog : Program} {w : World} {A : Around} {E : Value → Shared → Prop} {s : Shared}
theorem places_rev (n : Nat) : Builtin.Slice.slicePlaces ((n : Int) - 1) (-1) (-1) = n := by
  unfold Builtin.Slice.slicePlaces
  rw [if_neg (by decide)]
  by_cases h : (n : Int) - 1 > -1
  · rw [if_pos h]
    have : ((n : Int) - 1 - -1 - 1) / (- -1) + 1 = (n : Int) := by
      have : (- -1 : Int) = 1 := rfl
      rw [this, Int.ediv_one]; omega
    rw [this]; simp
  · rw [if_neg h]
    have : n = 0 := by omega
    subst this; rfl
theorem sliceApplied_rev {sl : Addr} {vl vu vs : Value} {n : Nat} {Q : Int × Int × Nat → Shared → Prop} (hs : s.heap.IsSliceOf sl vl vu vs) (pl : IsPart vl none) (pu : IsPart vu none) (ps : IsPart vs (some (-1)))
    (h : Q ((n : Int) - 1, -1, n) s) : wpAny (model prog w) A (Builtin.Slice.sliceApplied (.ref sl) (pure (n : Int))) Q E s := by
  obtain ⟨os, hos, hcs, hds⟩ := id hs
  unfold Builtin.Slice.sliceApplied Builtin.Slice.sliceFields
  refine wpAny_bind (wpAny_bind (wpAny_field hos hds (x := vl) rfl (wpAny_bind (wpAny_field hos hds (x := vu) rfl (wpAny_bind (wpAny_field hos hds (x := vs) rfl (wpAny_pure ?_)))))))
  refine wpAny_bind (slicePart_ ps ?_)
  show wpAny _ _ (if ((-1 : Int) == 0) = true then _ else _) _ _ s
  rw [if_neg (by decide)]
  refine wpAny_bind (slicePart_ pl (wpAny_bind (slicePart_ pu (wpAny_bind (wpAny_pure ?_)))))
  show wpAny _ _ (pure ((n : Int) - 1, (-1 : Int), Builtin.Slice.slicePlaces ((n : Int) - 1) (-1) (-1))) _ _ s
  rw [places_rev]
  exact wpAny_pure h
theorem pick_rev (xs : Array Value) : ((List.range xs.size).filterMap fun (m : Nat) => xs[(((xs.size : Int) - 1) + (m : Int) * (-1)).toNat]?).toArray = xs.toList.reverse.toArray := by
  congr 1
  obtain ⟨l⟩ := xs
  simp only [List.size_toArray]
  have e : ∀ m : Nat, m < l.length → (l.toArray)[(((l.length : Int) - 1) + (m : Int) * (-1)).toNat]? = l.reverse[m]? := fun m hm => by
    rw [List.getElem?_toArray, List.getElem?_reverse hm]
    congr 1
    omega
  have : (List.range l.length).filterMap (fun (m : Nat) => (l.toArray)[(((l.length : Int) - 1) + (m : Int) * (-1)).toNat]?) = (List.range l.length).filterMap (fun m => l.reverse[m]?) := by
    have gen : ∀ (ms : List Nat), (∀ m ∈ ms, m < l.length) → ms.filterMap (fun (m : Nat) => (l.toArray)[(((l.length : Int) - 1) + (m : Int) * (-1)).toNat]?) = ms.filterMap (fun m => l.reverse[m]?) := fun ms => by
      induction ms with
      | nil => intro _; rfl
      | cons m ms ih =>
        intro hm
        rw [List.filterMap_cons, List.filterMap_cons, e m (hm m (List.mem_cons_self ..)), ih fun k hk => hm k (List.mem_cons_of_mem _ hk)]
    exact gen _ fun m hm => List.mem_range.mp hm
  rw [this]
  have g : ∀ (r : List Value), (List.range r.length).filterMap (fun m => r[m]?) = r := fun r => by
    have h1 : (List.range r.length).filterMap (fun m => r[m]?) = ((List.range r.length).map (fun m => r[m]?)).filterMap id := by rw [List.filterMap_map]; rfl
    rw [h1]
    have h2 : (List.range r.length).map (fun m => r[m]?) = r.map some := by
      apply List.ext_getElem?
      intro i
      rw [List.getElem?_map, List.getElem?_map]
      by_cases hi : i < r.length
      · rw [List.getElem?_range hi, List.getElem?_eq_getElem hi]
        show some (r[i]?) = some (some r[i])
        rw [List.getElem?_eq_getElem hi]
      · rw [List.getElem?_eq_none (by rw [List.length_range]; omega), List.getElem?_eq_none (by omega)]
        rfl
    rw [h2, List.filterMap_map]
    have : (id ∘ some : Value → Option Value) = some := rfl
    rw [this, List.filterMap_some]
  have := g l.reverse
  rw [List.length_reverse] at this
  exact this
theorem getItem_tuple_rev {t sl : Addr} {items : Array Value} {vl vu vs : Value} {Q : Value → Shared → Prop} (ht : IsTup s.heap t items) (hs : s.heap.IsSliceOf sl vl vu vs) (pl : IsPart vl none) (pu : IsPart vu none) (ps : IsPart vs (some (-1)))
    (h : Q (.ref s.heap.objs.size) { s with heap := s.heap.push { cls := .type "tuple", data := .seq items.toList.reverse.toArray } })
    (hsz : items.size ≤ sizeLine) : wpAny (model prog w) A (getItem (.ref t) (.ref sl)) Q E s := by
  have htake : sizeOk (.seq items.toList.reverse.toArray) := by
    show items.toList.reverse.toArray.size ≤ sizeLine
    rw [List.size_toArray, List.length_reverse, Array.length_toList]
    omega
  obtain ⟨os, hos, hcs, hds⟩ := id hs
  have hTs : s.TypeIs (.ref sl) "slice" := ⟨os, hos, hcs⟩
  unfold getItem
  try with_reducible refine wpAny_holding ?_
  first | refine wpAny_bind (wpAny_pure ?_) | skip
  refine wpAny_bind (wpAny_sequenceKey ht.typeIs (by decide) ?_)
  refine wpAny_bind (wpAny_callSpecial?_slot (name := Str.ofString "__getitem__") ht.typeIs PyProof.Rows.slot_tuple_getitem
    (wpAny_call_entry PyProof.Rows.slot_tuple_getitem ht.typeIs entry_tuple_getitem ?_ (args_tuple_getitem _ _)))
  show wpAny _ _ (Builtin.Tuple.tupleItemsOf (.ref t) >>= _) _ _ s
  refine wpAny_bind (tupleItemsOf_ ht ?_)
  refine wpAny_bind (wpAny_typeOf hTs ?_)
  rw [if_pos (by decide)]
  refine wpAny_bind (sliceApplied_rev hs pl pu ps ?_)
  have hno : ¬ ((((items.size : Int) - 1) == 0 && (-1 : Int) == 1 && items.size == items.size) = true) := by
    intro q
    rw [Bool.and_eq_true, Bool.and_eq_true] at q
    exact absurd q.1.2 (by decide)
  show wpAny _ _ (if (((items.size : Int) - 1) == 0 && (-1 : Int) == 1 && items.size == items.size) = true then _ else _) _ _ s
  rw [if_neg hno, pick_rev]
  first
    | exact wpAny_bind (m := Builtin.Tuple.tupleExact _) (wpAny_newObj_type (wpAny_pure ⟨_, rfl, wpAny_pure h⟩) htake)
    | exact wpAny_bind (m := Builtin.Tuple.tupleExact _) (wpAny_newObj_type (wpAny_bind (wpAny_pure (wpAny_pure ⟨_, rfl, wpAny_pure h⟩))) htake)
    | exact wpAny_bind (wpAny_bind (m := Builtin.Tuple.tupleExact _) (wpAny_newObj_type (wpAny_pure (wpAny_pure ⟨_, rfl, wpAny_pure h⟩)) htake))
    | exact wpAny_bind (wpAny_bind (m := Builtin.Tuple.tupleExact _) (wpAny_newObj_type (wpAny_pure ⟨_, rfl, wpAny_pure h⟩) htake))
end

section
variable {X : Cx}
/-- xs[::-1], a list or a tuple -/
def tRevA (K : PySem.W.Frag) (te : TE) : TE := fun σ H Q => te σ H fun x H1 => (∃ a xs, x = .ref a ∧ SqL K H1 a xs ∧ ∀ p, H1 p = none → Q (.ref p) (upd H1 p (.lst xs.reverse))) ∨
  (∃ a xs, x = .ref a ∧ SqT K H1 a xs ∧ ∀ p, H1 p = none → Q (.ref p) (upd H1 p (.tup xs.reverse)))
theorem pe_revA {e : Expr} {te : TE} {k : Nat} {p1 p2 p3 pos : Pos} (he : PE X e te) : PE X (.Subscript e (.Slice none none (some (.UnaryOp .USub (.Constant (.int 1) k p1) p2)) p3) pos) (tRevA X.K te) := by
  refine ⟨fun pins s σ H Q I h => ?_⟩
  refine Subscript_ (thn (he.run pins s σ H _ I h) fun v s1 ⟨x, H1, I1, r1, q1⟩ => ?_)
  have hst : PO X (some (.UnaryOp .USub (.Constant (.int 1) k p1) p2)) (tPart (tUn (rU fun i => .int (-i)) (tC (.int 1)))) := po_some (pe_un un_neg pe_int)
  refine wpAny_Slice (thn (po_none.run pins s1 σ H1 (fun o H2 => o = none ∧ H2 = H1) I1 ⟨rfl, rfl⟩) fun vl s2 ⟨l, H2, I2, pl, el, e2⟩ => ?_)
  subst el e2
  refine thn (po_none.run pins s2 σ H2 (fun o H3 => o = none ∧ H3 = H2) I2 ⟨rfl, rfl⟩) fun vu s3 ⟨u, H3, I3, pu, eu, e3⟩ => ?_
  subst eu e3
  refine thn (hst.run pins s3 σ H3 (fun o H4 => o = some (-1) ∧ H4 = H3) I3 ⟨1, rfl, -1, rfl, rfl, rfl⟩) fun vs s4 ⟨o, H4, I4, ps, eo, e4⟩ => ?_
  subst eo e4
  have I5 : Inv X pins σ H4 { s4 with heap := s4.heap.push { cls := .type "slice", data := .fields #[vl, vu, vs] } } := I4.kept (t' := s4.toks) fun b ob q => Heap.get?_push_of_some _ q
  show wpAny (model X.prog X.w) X.A (subscriptTail e (.Slice none none (some (.UnaryOp .USub (.Constant (.int 1) k p1) p2)) p3) v (.ref s4.heap.objs.size)) (EP X pins σ Q) X.xe { s4 with heap := s4.heap.push { cls := .type "slice", data := .fields #[vl, vu, vs] } }
  rcases q1 with ⟨a, xs, ex, hx, q⟩ | ⟨a, xs, ex, hx, q⟩
  · subst ex
    cases r1
    obtain ⟨its, r, ht, hz⟩ := I5.list hx
    have hlen := r.length
    refine tail_any (ops := [.ref a, .ref s4.heap.objs.size]) ht.isList.typeIs (PySem.slot_list_getitem.lookup) ?_ (by with_unfolding_all rfl)
    refine wpAny_getItem_list_slice ht.isList (Heap.IsSliceOf.new _ vl vu vs) pl pu ps (by decide) ?_ (by rw [List.size_toArray]; omega)
    rw [PySem.W.krv_pick]
    refine ⟨.ref _, _, I5.laid (t' := s4.toks) (o := .lst xs.reverse) (fun b ob q => Heap.get?_push_of_some _ q) (Nat.le_refl _) ?_, rfl, q _ (I5.hok.fresh (Nat.le_refl _))⟩
    exact ⟨by rw [List.length_reverse]; exact hz, _, 0, r.reverse, Heap.get?_push_size _ rfl⟩
  · subst ex
    cases r1
    obtain ⟨its, r, ht, hz⟩ := I5.tuple hx
    have hlen := r.length
    refine tail_any (ops := [.ref a, .ref s4.heap.objs.size]) ht.typeIs PyProof.Rows.slot_tuple_getitem.lookup ?_ (by with_unfolding_all rfl)
    refine getItem_tuple_rev ht (Heap.IsSliceOf.new _ vl vu vs) pl pu ps ?_ (by rw [List.size_toArray]; omega)
    refine ⟨.ref _, _, I5.laid (t' := s4.toks) (o := .tup xs.reverse) (fun b ob q => Heap.get?_push_of_some _ q) (Nat.le_refl _) ?_, rfl, q _ (I5.hok.fresh (Nat.le_refl _))⟩
    exact ⟨by rw [List.length_reverse]; exact hz, _, r.reverse, IsTup.new _ _⟩

/-! ### operators of any type -/
def oAdd (K : PySem.W.Frag) : R2 := fun x y H Q => rI0 (fun i j => .int (i + j)) x y H Q ∨ (∃ i j, x = .str i ∧ y = .str j ∧ i.length + j.length ≤ sizeLine ∧ Q (.str (i ++ j)) H) ∨ rCat x y H Q ∨ rCatA K x y H Q
theorem op_oAdd : OpR X (binaryOp .Add) (oAdd X.K) := by
  intro pins s σ H x y v u Q I rx ry h
  rcases h with h | h | h | h
  · exact op_add pins s σ H x y v u Q I rx ry h
  · exact op_add_str pins s σ H x y v u Q I rx ry h
  · exact op_cat pins s σ H x y v u Q I rx ry h
  · exact op_catA pins s σ H x y v u Q I rx ry h
def oMul (K : PySem.W.Frag) : R2 := fun x y H Q => rI CMulX (fun i j => .int (i * j)) x y H Q ∨ rRep x y H Q ∨ rRepT K x y H Q
theorem op_oMul : OpR X (binaryOp .Mult) (oMul X.K) := by
  intro pins s σ H x y v u Q I rx ry h
  rcases h with h | h | h
  · exact op_mulX pins s σ H x y v u Q I rx ry h
  · exact op_rep pins s σ H x y v u Q I rx ry h
  · exact op_repT pins s σ H x y v u Q I rx ry h
/-- a power of a great base -/
def CPowX (i j : Int) : Prop := 0 ≤ j ∧ (Builtin.Int.intBits i : Int) * j ≤ 2 ^ 27
theorem op_powX : OpR X (binaryOp .Pow) (rI CPowX fun i j => .int (i ^ j.toNat)) := opI fun _ _ _ _ _ _ _ hc q => PyProof.Rows.pow_int hc.1 hc.2 q
def oEq (K : PySem.W.Frag) : R2 := fun x y H Q => rEq x y H Q ∨ rEqD K x y H Q
theorem op_oEq (hu : X.A.units + 64 < cLine) : OpR X (compareOp .Eq) (oEq X.K) := by
  intro pins s σ H x y v u Q I rx ry h
  rcases h with h | h
  · exact op_eq pins s σ H x y v u Q I rx ry h
  · exact op_eqD hu pins s σ H x y v u Q I rx ry h
def oNe (K : PySem.W.Frag) : R2 := fun x y H Q => rNe x y H Q ∨ rNeD K x y H Q
theorem op_oNe (hu : X.A.units + 64 < cLine) : OpR X (compareOp .NotEq) (oNe X.K) := by
  intro pins s σ H x y v u Q I rx ry h
  rcases h with h | h
  · exact op_ne pins s σ H x y v u Q I rx ry h
  · exact op_neD hu pins s σ H x y v u Q I rx ry h
def rInT (K : PySem.W.Frag) : R2 := fun x y H Q => ∃ d ds, Dp K H x d ∧ Dp K H y (.tuple ds) ∧ SeqAt.shaped d = true ∧ SeqAt.shaped (.tuple ds) = true ∧ Q (.bl (ds.any fun z => PyData.eqv z d)) H
theorem op_inT (hu : X.A.units + 65 < cLine) : OpR X (compareOp .In) (rInT X.K) := by
  intro pins s σ H x y v u Q I rx ry h
  obtain ⟨d, ds, hd, he, sd, se, q⟩ := h
  obtain ⟨as, r1⟩ := Dp.reads I d x v hd rx
  obtain ⟨bs, r2⟩ := Dp.reads I (.tuple ds) y u he ry
  exact SeqAt.in_tuple_reads r2 r1 (SeqAt.canLay_of_shaped se) (SeqAt.canLay_of_shaped sd) (room_in_shaped sd hu) ⟨.bl _, H, I, rfl, q⟩
def rInS' : R2 := fun x y H Q => ∃ (c : Nat) (z : Str), x = .str ⟨#[c]⟩ ∧ y = .str z ∧ Q (.bl (decide (c ∈ z.cps.toList))) H
/-- a key of a dict -/
def rInK : R2 := fun x y H Q => ∃ (d : Addr) (o : Option V), y = .ref d ∧ DGet H d x o ∧ Q (.bl o.isSome) H
theorem op_inK (hu : X.A.units + 1 < cLine) : OpR X (compareOp .In) rInK := by
  intro pins s σ H x y v u Q I rx ry h
  obtain ⟨d, o, rfl, g, q⟩ := h
  obtain rfl : u = Value.ref d := ry
  exact d_in hu I g rx fun s3 I3 => ⟨.bl o.isSome, H, I3, rfl, q⟩
def oIn (K : PySem.W.Frag) : R2 := fun x y H Q => rInS' x y H Q ∨ rInD K x y H Q ∨ rInT K x y H Q ∨ rInK x y H Q
theorem op_oIn (hu : X.A.units + 65 < cLine) : OpR X (compareOp .In) (oIn X.K) := by
  intro pins s σ H x y v u Q I rx ry h
  rcases h with h | h | h | h
  · exact op_in_sign pins s σ H x y v u Q I rx ry h
  · exact op_inD hu pins s σ H x y v u Q I rx ry h
  · exact op_inT hu pins s σ H x y v u Q I rx ry h
  · exact op_inK (by omega) pins s σ H x y v u Q I rx ry h
def oSl (K : PySem.W.Frag) : V → Option Int → Option Int → Hp → VK → Prop := fun x lo hi H Q => rSlL K x lo hi H Q ∨ rSlA K x lo hi H Q ∨ rSlS x lo hi H Q
theorem sl_o : SlR X (oSl X.K) := by
  intro pins s σ H x v vl vu lo hi sl Q I rx hs pl pu h
  rcases h with h | h | h
  · exact sl_list pins s σ H x v vl vu lo hi sl Q I rx hs pl pu h
  · exact sl_tupA pins s σ H x v vl vu lo hi sl Q I rx hs pl pu h
  · exact sl_str pins s σ H x v vl vu lo hi sl Q I rx hs pl pu h
def oLen (K : PySem.W.Frag) : List V → Hp → VK → Prop := fun xs H Q => (∃ p ys, xs = [.ref p] ∧ (SqL K H p ys ∨ SqT K H p ys) ∧ Q (.int ys.length) H) ∨ (∃ z, xs = [.str z] ∧ z.length ≤ sizeLine ∧ Q (.int z.length) H)
theorem call_oLen : CallR X (.builtin "len") (oLen X.K) := by
  intro pins s σ H xs us Q I r h
  rcases h with h | h
  · exact call_len_seq pins s σ H xs us Q I r h
  · exact call_len_str pins s σ H xs us Q I r h
set_option maxRecDepth 8000 in
theorem ext_tup (l : Addr) (items : Array Value) (n : Nat) (b : Addr) (items2 : Array Value) (n2 : Nat) (dd : Option Addr) (sl : Array (Option Value)) (hs0 : ¬(!items.isEmpty && Builtin.List.listTooLong (items.size + items2.size)) = true) (hs1 : items.size ≤ sizeLine) (hs2 : items.size + items2.size ≤ sizeLine + 1) :
    Meets (Builtin.«list.extend» ⟨[.ref l, .ref b], []⟩) (fun _ R s => s.heap.get? l = some { cls := .type "list", dict := none, data := .seq items n, slots := #[] } ∧ s.heap.get? b = some { cls := .type "tuple", dict := dd, data := .seq items2 n2, slots := sl } ∧ R (.ok (.ret Value.none)) { s with heap := s.heap.update l (Obj.mapSeq fun x => x ++ items2), toks := s.toks }) :=
  .of_wp fun prog w A R s h => by
    obtain ⟨hp, g, d, tk, os⟩ := s; obtain ⟨hl, hb, h⟩ := h; have f1 := AutoSeq1.idx_int; have f2 := AutoSeq1.sub_tuple_tuple; have f3 := AutoSeq1.sub_list_list; have f4 := AutoSeq1.sub_tuple_list; have f5 := AutoSeq1.sub_list_tuple;
    have hz' : (items ++ items2).size ≤ sizeLine + 1 := by rw [Array.size_append]; exact hs2
    wp_walk using (wpAny_updateSeq hl rfl (hz := hs1) (_hz' := hz')), wpAny_loadPart' hl, wpAny_loadPart' hb; exact ⟨_, rfl, h⟩
/-- list.extend by a list or a tuple -/
def rExtT (K : PySem.W.Frag) : V → List V → Hp → VK → Prop := fun x vs H Q => ∃ l b xs zs, x = .ref l ∧ vs = [.ref b] ∧ H l = some (.lst xs) ∧ SqT K H b zs ∧ xs.length + zs.length ≤ sizeLine ∧ Q .non (upd H l (.lst (xs ++ zs)))
theorem mt_extT : MtM X "list.extend" (rExtT X.K) := by
  intro pins s σ H x vs v us Q I rx rv h
  obtain ⟨l, b, xs, zs, rfl, rfl, hH, hB, hz, q⟩ := h
  cases rx
  obtain ⟨u, rfl, ru⟩ := rv.one
  cases ru
  obtain ⟨z, its, n, r, hl, e⟩ := I.lstM hH
  obtain ⟨its2, r2, p2, hl2⟩ := I.tuple hB
  obtain ⟨⟨cls2, dd2, data2, sl2⟩, ho2, hc2, n2, hd2⟩ := id p2
  simp only at hc2 hd2
  subst hc2 hd2
  have h1 := r.length
  have h2 := r2.length
  have hsz : its.toArray.size + its2.toArray.size ≤ sizeLine := by rw [List.size_toArray, List.size_toArray]; omega
  have hlong : ¬ (!its.toArray.isEmpty && Builtin.List.listTooLong (its.toArray.size + its2.toArray.size)) = true := by
    rw [notLongL hsz, Bool.and_false]
    exact Bool.false_ne_true
  refine call_meets F.slot_list_extend ⟨_, e, rfl⟩ F.entry_list_extend (F.args_list_extend_2 _ _)
    (ext_tup l its.toArray n b its2.toArray n2 dd2 sl2 hlong (by rw [List.size_toArray]; omega) (by omega)) ⟨e, ho2, ?_⟩
  refine ⟨.non, _, I.lset (its' := its ++ its2) hH e (by simp) (r.append r2) ?_, rfl, q⟩
  rw [List.length_append]
  omega
def oExt (K : PySem.W.Frag) : V → List V → Hp → VK → Prop := fun x vs H Q => rExtend x vs H Q ∨ rExtT K x vs H Q
theorem mt_oExt : MtM X "list.extend" (oExt X.K) := by
  intro pins s σ H x vs v us Q I rx rv h
  rcases h with h | h
  · exact mt_extend pins s σ H x vs v us Q I rx rv h
  · exact mt_extT pins s σ H x vs v us Q I rx rv h
end
end Ek

/-! Ek9: operations over data. -/
namespace Ek
open PySem PySem.Spec PyProof.Rows L2

/-- lists alone / tuples alone -/
def Sl.lsd : Sl → Option (List Dt)
  | .im (.lst ds) => some ds
  | .ls ds => some ds
  | .ln _ ds => some ds
  | _ => none
def Rs.lsd (δ : List Sl) : Rs → Option (List Dt)
  | .sl s => s.lsd
  | .bo i => (δ[i]?).bind Sl.lsd
section
variable {K : PySem.W.Frag} {W : Wd} {F H F' H' : Hp} {σ σ' : L2.St} {δ δ' : List Sl} {pd pd' : List (V × Sl)} {ad : Ix → List Addr} {v : V} {s : Sl} {P : Rs → List Sl → Prop} {r1 r2 : Rs} {te ta tb : TE}
theorem ownS_lsd {v : V} {as : List Addr} {s : Sl} {ds : List Dt} (h : OwnS K W F H (some v) as s) (sF : Same F H) (hc : s.lsd = some ds) : ∃ a xs, v = .ref a ∧ H a = some (.lst xs) ∧ DdAll K F xs ds := by
  cases s with
  | un => cases hc
  | im e =>
    obtain ⟨_, w, e1, q⟩ := h
    cases e1
    cases q with
    | lst h1 h2 => cases hc; exact ⟨_, _, rfl, sF _ _ h1, h2⟩
    | _ => cases hc
  | ls es =>
    obtain ⟨p, xs, e1, _, e2, q, _⟩ := h
    cases e1; cases hc
    exact ⟨p, xs, rfl, e2, q⟩
  | ln k es =>
    obtain ⟨p, xs, e1, _, e2, q, _⟩ := h
    cases e1; cases hc
    exact ⟨p, xs, rfl, e2, q⟩
  | mt rows => cases hc
theorem Sat.lsd (h : Sat K W F H σ δ pd) {k : Nat} {v : V} {r : Rs} {ds : List Dt} (e : pd[k]? = some (v, r.pend)) (ok : RsOk σ v r) (hc : r.lsd δ = some ds) : ∃ a xs, v = .ref a ∧ H a = some (.lst xs) ∧ DdAll K F xs ds := by
  cases r with
  | sl s =>
    obtain ⟨as, o⟩ := h.pnd e
    exact ownS_lsd o h.FH hc
  | bo i =>
    have hc : (δ[i]?).bind Sl.lsd = some ds := hc
    cases q : δ[i]? with
    | none => rw [q] at hc; cases hc
    | some s =>
      rw [q] at hc
      obtain ⟨w, as, e1, o⟩ := h.slot q (fun z => by subst z; cases hc)
      have ok : σ[i]? = some (some v) := ok
      rw [ok] at e1
      cases e1
      exact ownS_lsd o h.FH hc
theorem Sat.im2 (h : Sat K W F H σ δ (pd ++ [(v, r1.pend), (v', .im d)])) : Dd K F v' d := by
  obtain ⟨as, _, w, e, q⟩ := h.pnd two2
  cases e; exact q
theorem Sat.im1 {s2 : Sl} (h : Sat K W F H σ δ (pd ++ [(v, .im d), (v', s2)])) : Dd K F v d := by
  obtain ⟨as, _, w, e, q⟩ := h.pnd two1
  cases e; exact q
/-! ### + -/
theorem ap_addI {a b : Int} (p : P (im (.int (a + b))) δ) : Ap2 K (oAdd K) (im (.int a)) (im (.int b)) δ P := (ap_S (r := rI0 fun i j => .int (i + j)) (op_I0 rfl) rfl rfl p).inl
theorem ap_addS {a b : Str} (hz : a.length + b.length ≤ sizeLine) (p : P (im (.str (a ++ b))) δ) : Ap2 K (oAdd K) (im (.str a)) (im (.str b)) δ P := fun W F H σ pd v1 v2 S k1 k2 Q q => by
  have d1 : Dd K F v1 (.str a) := S.im1 (s2 := .im (.str b))
  have d2 : Dd K F v2 (.str b) := S.im2 (r1 := im (.str a))
  cases d1; cases d2
  exact .inr (.inl ⟨a, b, rfl, rfl, hz, q F H _ (im _) δ p trivial (S.drop.pushIm (.str _))⟩)
theorem ap_addL {xs ys : List Dt} (c1 : r1.lsd δ = some xs) (c2 : r2.lsd δ = some ys) (hz : xs.length + ys.length ≤ sizeLine) (p : P (.sl (.ls (xs ++ ys))) δ) : Ap2 K (oAdd K) r1 r2 δ P := fun W F H σ pd v1 v2 S k1 k2 Q q => by
  obtain ⟨a, us, rfl, h1, e1⟩ := S.lsd two1 k1 c1
  obtain ⟨b, ws, rfl, h2, e2⟩ := S.lsd two2 k2 c2
  refine .inr (.inr (.inl ⟨a, b, us, ws, rfl, rfl, h1, h2, by rw [e1.length, e2.length]; exact hz, fun p' hp => ?_⟩))
  exact q _ _ _ (.sl (.ls (xs ++ ys))) δ p trivial (S.drop.newLs hp (e1.append e2))
theorem ap_addT {xs ys : List Dt} (hz : xs.length + ys.length ≤ sizeLine) (p : P (im (.tup (xs ++ ys))) δ) : Ap2 K (oAdd K) (im (.tup xs)) (im (.tup ys)) δ P := fun W F H σ pd v1 v2 S k1 k2 Q q => by
  have d1 : Dd K F v1 (.tup xs) := S.im1 (s2 := .im (.tup ys))
  have d2 : Dd K F v2 (.tup ys) := S.im2 (r1 := im (.tup xs))
  cases d1 with
  | tup h1 e1 =>
    cases d2 with
    | tup h2 e2 =>
      rename_i a us b ws
      have l1 := e1.length
      have l2 := e2.length
      refine .inr (.inr (.inr ⟨_, _, us, ws, rfl, rfl, sqT_mono S.FH h1, sqT_mono S.FH h2, by omega, fun e => ?_, fun _ e => ?_, fun _ _ p' hp => ?_⟩))
      · subst e
        have : xs = [] := by cases e1; rfl
        subst this
        exact q F H _ (im _) δ p trivial (S.drop.pushIm (.tup h2 e2))
      · subst e
        have : ys = [] := by cases e2; rfl
        subst this
        rw [List.append_nil] at p
        exact q F H _ (im _) δ p trivial (S.drop.pushIm (.tup h1 e1))
      · exact q _ _ _ (im _) δ p trivial (S.drop.newT hp (e1.append e2)).1
/-! ### * -/
theorem ap_mulI {a b : Int} (c : CMulX a b) (p : P (im (.int (a * b))) δ) : Ap2 K (oMul K) (im (.int a)) (im (.int b)) δ P := (ap_S (r := rI CMulX fun i j => .int (i * j)) (op_I c rfl) rfl rfl p).inl
theorem DdAll.flat {xs : List V} {ds : List Dt} (h : DdAll K F xs ds) : ∀ n : Nat, DdAll K F (List.replicate n xs).flatten (List.replicate n ds).flatten
  | 0 => .nil
  | n + 1 => by
    rw [List.replicate_succ, List.replicate_succ, List.flatten_cons, List.flatten_cons]
    exact h.append (DdAll.flat h n)
theorem ap_mulL {xs : List Dt} {k : Int} (c1 : r1.lsd δ = some xs) (b : -(2 ^ 63) ≤ k ∧ k < 2 ^ 63) (hz : xs.length * k.toNat ≤ sizeLine) (p : P (.sl (.ls (List.replicate k.toNat xs).flatten)) δ) : Ap2 K (oMul K) r1 (im (.int k)) δ P := fun W F H σ pd v1 v2 S k1 k2 Q q => by
  obtain ⟨a, us, rfl, h1, e1⟩ := S.lsd two1 k1 c1
  have d2 : Dd K F v2 (.int k) := S.im2
  cases d2
  refine .inr (.inl ⟨a, k, us, rfl, rfl, h1, b.1, b.2, by rw [e1.length]; exact hz, fun p' hp => ?_⟩)
  exact q _ _ _ (.sl (.ls _)) δ p trivial (S.drop.newLs hp (e1.flat _))
/-! ### == != -/
theorem ap_eqI {a b : Int} (p : P (im (.bl (decide (a = b)))) δ) : Ap2 K (oEq K) (im (.int a)) (im (.int b)) δ P :=
  (ap_S (r := rEq) (x := .int a) (y := .int b) (z := .bl (decide (a = b))) (fun K H v u Q h1 h2 q => by
    cases h1; cases h2
    refine ⟨rfl, q _ ?_⟩
    show some (Dt.bl _) = some (Dt.bl _)
    congr 2; simp) rfl rfl p).inl
theorem ap_neI {a b : Int} (p : P (im (.bl (!decide (a = b)))) δ) : Ap2 K (oNe K) (im (.int a)) (im (.int b)) δ P :=
  (ap_S (r := rNe) (x := .int a) (y := .int b) (z := .bl (!decide (a = b))) (fun K H v u Q h1 h2 q => by
    cases h1; cases h2
    refine ⟨rfl, q _ ?_⟩
    show some (Dt.bl _) = some (Dt.bl _)
    congr 2; simp) rfl rfl p).inl
theorem ap_eqS {a b : Str} (p : P (im (.bl (decide (a = b)))) δ) : Ap2 K (oEq K) (im (.str a)) (im (.str b)) δ P :=
  (ap_S (r := rEq) (x := .str a) (y := .str b) (z := .bl (decide (a = b))) (fun K H v u Q h1 h2 q => by
    cases h1; cases h2
    refine ⟨rfl, q _ ?_⟩
    show some (Dt.bl _) = some (Dt.bl _)
    congr 2; simp) rfl rfl p).inl
theorem ap_neS {a b : Str} (p : P (im (.bl (!decide (a = b)))) δ) : Ap2 K (oNe K) (im (.str a)) (im (.str b)) δ P :=
  (ap_S (r := rNe) (x := .str a) (y := .str b) (z := .bl (!decide (a = b))) (fun K H v u Q h1 h2 q => by
    cases h1; cases h2
    refine ⟨rfl, q _ ?_⟩
    show some (Dt.bl _) = some (Dt.bl _)
    congr 2; simp) rfl rfl p).inl
theorem ap_eqD {x y : Dt} {d e : PyData} (c1 : r1.con δ = some x) (c2 : r2.con δ = some y) (q1 : x.py = some d) (q2 : y.py = some e) (s1 : SeqAt.shaped d = true) (s2 : SeqAt.shaped e = true) (p : P (im (.bl (PyData.eqv d e))) δ) : Ap2 K (oEq K) r1 r2 δ P :=
  fun W F H σ pd v1 v2 S k1 k2 Q q => .inr ⟨d, e, (S.val two1 k1 c1).dp q1, (S.val two2 k2 c2).dp q2, s1, s2, q F H _ (im _) δ p trivial (S.drop.pushIm (.bl _))⟩
theorem ap_neD {x y : Dt} {d e : PyData} (c1 : r1.con δ = some x) (c2 : r2.con δ = some y) (q1 : x.py = some d) (q2 : y.py = some e) (s1 : SeqAt.shaped d = true) (s2 : SeqAt.shaped e = true) (p : P (im (.bl (!PyData.eqv d e))) δ) : Ap2 K (oNe K) r1 r2 δ P :=
  fun W F H σ pd v1 v2 S k1 k2 Q q => .inr ⟨d, e, (S.val two1 k1 c1).dp q1, (S.val two2 k2 c2).dp q2, s1, s2, q F H _ (im _) δ p trivial (S.drop.pushIm (.bl _))⟩
/-! ### in -/
theorem ap_inS {c : Nat} {z : Str} (p : P (im (.bl (decide (c ∈ z.cps.toList)))) δ) : Ap2 K (oIn K) (im (.str ⟨#[c]⟩)) (im (.str z)) δ P := fun W F H σ pd v1 v2 S k1 k2 Q q => by
  have d1 : Dd K F v1 (.str ⟨#[c]⟩) := S.im1 (s2 := .im (.str z))
  have d2 : Dd K F v2 (.str z) := S.im2 (r1 := im (.str ⟨#[c]⟩))
  cases d1; cases d2
  exact .inl ⟨c, z, rfl, rfl, q F H _ (im _) δ p trivial (S.drop.pushIm (.bl _))⟩
theorem Dt.py_seq {x : Dt} {ds : List Dt} {es : List PyData} (h : x = .lst ds ∨ x = .sq ds) (q : Dt.pyAll ds = some es) : x.py = some (.list es) := by
  rcases h with h | h
  · subst h; simp only [Dt.py, q, Option.map_some]
  · subst h; simp only [Dt.py, q, Option.map_some]
theorem ap_inL {x : Dt} {ds : List Dt} {d : PyData} {es : List PyData} (c1 : r1.con δ = some x) (c2 : r2.con δ = some (.lst ds)) (q1 : x.py = some d) (q2 : Dt.pyAll ds = some es) (s1 : SeqAt.shaped d = true) (s2 : SeqAt.shaped (.list es) = true)
    (p : P (im (.bl (es.any fun z => PyData.eqv z d))) δ) : Ap2 K (oIn K) r1 r2 δ P :=
  fun W F H σ pd v1 v2 S k1 k2 Q q => .inr (.inl ⟨d, es, (S.val two1 k1 c1).dp q1, (S.val two2 k2 c2).dp (Dt.py_seq (.inl rfl) q2), s1, s2, q F H _ (im _) δ p trivial (S.drop.pushIm (.bl _))⟩)
theorem ap_inT {x : Dt} {ds : List Dt} {d : PyData} {es : List PyData} (c1 : r1.con δ = some x) (c2 : r2.con δ = some (.tup ds)) (q1 : x.py = some d) (q2 : Dt.pyAll ds = some es) (s1 : SeqAt.shaped d = true) (s2 : SeqAt.shaped (.tuple es) = true)
    (p : P (im (.bl (es.any fun z => PyData.eqv z d))) δ) : Ap2 K (oIn K) r1 r2 δ P :=
  fun W F H σ pd v1 v2 S k1 k2 Q q => .inr (.inr (.inl ⟨d, es, (S.val two1 k1 c1).dp q1, (S.val two2 k2 c2).dp (by simp only [Dt.py, q2, Option.map_some]), s1, s2, q F H _ (im _) δ p trivial (S.drop.pushIm (.bl _))⟩))
/-! ### dicts that are read -/
def getK : List Key → List Dt → Key → Option Dt
  | k0 :: ks, d :: ds, k => if k0 = k then some d else getK ks ds k
  | _, _, _ => none
theorem valV_get {k : Key} : ∀ {ks : List Key} {xs : List V} {ds : List Dt}, DdAll K F xs ds →
    (valV (ks.zip xs) k = none ∧ getK ks ds k = none) ∨ ∃ v d, valV (ks.zip xs) k = some v ∧ getK ks ds k = some d ∧ Dd K F v d
  | [], _, _, _ => .inl ⟨rfl, rfl⟩
  | _ :: _, [], _, h => by cases h; exact .inl ⟨rfl, rfl⟩
  | k0 :: ks, x :: xs, _, h => by
    cases h with
    | cons h1 h2 =>
      rename_i d ds
      by_cases e : k0 = k
      · right
        exact ⟨x, d, by simp [valV, e], by simp [getK, e], h1⟩
      · have := valV_get (k := k) (ks := ks) h2
        have e1 : valV ((k0 :: ks).zip (x :: xs)) k = valV (ks.zip xs) k := by simp [valV, e]
        have e2 : getK (k0 :: ks) (d :: ds) k = getK ks ds k := by simp [getK, e]
        rw [e1, e2]
        exact this
def Dt.key : Dt → Option Key
  | .int i => some (.inl i)
  | .str z => some (.inr z)
  | _ => none
theorem Dd.key {d : Dt} {k : Key} (h : Dd K H v d) (e : d.key = some k) : v = kV k := by
  cases h <;> simp only [Dt.key, Option.some.injEq, reduceCtorEq] at e <;> subst e <;> rfl
theorem ap_inK {x : Dt} {k : Key} {ks : List Key} {ds : List Dt} (e : x.key = some k) (p : P (im (.bl (getK ks ds k).isSome)) δ) : Ap2 K (oIn K) (im x) (im (.dk ks ds)) δ P := fun W F H σ pd v1 v2 S k1 k2 Q q => by
  have d1 : Dd K F v1 x := S.im1 (s2 := .im (.dk ks ds))
  have d2 : Dd K F v2 (.dk ks ds) := S.im2 (r1 := im x)
  have ek := d1.key e
  subst ek
  cases d2 with
  | dk h1 h2 =>
    rename_i a xs
    refine .inr (.inr (.inr ⟨a, valV (ks.zip xs) k, rfl, DGet.k (S.FH _ _ h1), ?_⟩))
    rcases valV_get (k := k) (ks := ks) h2 with ⟨e1, e2⟩ | ⟨v, d, e1, e2, _⟩
    · rw [e1]; rw [e2] at p
      exact q F H _ (im _) δ p trivial (S.drop.pushIm (.bl _))
    · rw [e1]; rw [e2] at p
      exact q F H _ (im _) δ p trivial (S.drop.pushIm (.bl _))
/-- subscripts of lists, tuples, texts, dicts -/
def oIx (K : PySem.W.Frag) : R2 := fun x y H Q => rIx K x y H Q ∨ ∃ a v, x = .ref a ∧ DGet H a y (some v) ∧ Q v H
end
section
variable {X : Cx}
theorem ix_o (hu : X.A.units + 1 < cLine) : IxR X (oIx X.K) := by
  intro value slice pins s σ H x y v u Q I rx ry h hs
  rcases h with h | ⟨a, w, rfl, g, q⟩
  · exact ix_seq value slice pins s σ H x y v u Q I rx ry h hs
  · obtain rfl : v = Value.ref a := rx
    refine tail_any (dict_typeIs I g) PySem.F.slot_dict_getitem.lookup ?_ hs
    exact d_getItem hu I g ry fun w' s3 I3 rw' => ⟨w, H, I3, rw', q⟩
end
end Ek

/-! Ek10: enumerate over tuples; targets of any sequence. -/
namespace PySem
open AutoSeq1 (wpAny_loadPart')
theorem meets_enumerate_newTup (l : Addr) (items : Array Value) (n : Nat) (dct : Option Addr) (sl : Array (Option Value)) :
    Meets (Builtin.«enumerate.__new__» ⟨[.type "enumerate", .ref l], []⟩) (fun _ R s => s.heap.get? l = some { cls := .type "tuple", dict := dct, data := .seq items n, slots := sl } ∧
      R (.ok (.ret (.ref (s.heap.push { cls := .type "tuple_iterator", data := .fields #[.ref l, .int 0 0] }).objs.size)))
        { s with heap := (s.heap.push { cls := .type "tuple_iterator", data := .fields #[.ref l, .int 0 0] }).push { cls := .type "enumerate", data := .fields #[.none, .bool false, .ref s.heap.objs.size, rawInt 0, .none, .none] } }) :=
  .of_wp fun prog w A R s h => by
    obtain ⟨hp, g, d, tk, os⟩ := s; obtain ⟨hl, h⟩ := h
    have hsub := sub_enumerate
    have hL : Heap.IsTuple (Shared.heap ⟨hp, g, d, tk, os⟩) l items := ⟨_, hl, rfl, n, rfl⟩
    wp_walk using wpAny_loadPart' hl
    refine wpAny_stack_any fun st => wpAny_pure ?_
    split
    · rename_i c _ _ _ _ _
      cases (c == Value.type "enumerate")
      · wp_walk using wpAny_loadPart' hl, wpAny_pyIter_tuple hL
        exact ⟨_, rfl, h⟩
      · wp_walk using wpAny_loadPart' hl, wpAny_pyIter_tuple hL
        exact ⟨_, rfl, h⟩
    · wp_walk using wpAny_loadPart' hl, wpAny_pyIter_tuple hL
      exact ⟨_, rfl, h⟩
section
variable {prog : Program} {w : World} {A : Around} {E : Value → Shared → Prop} {s : Shared}
theorem call_enumerate_tup {l : Addr} {items : Array Value} {Q : Value → Shared → Prop} (hL : s.heap.IsTuple l items)
    (h : ∀ h', IsEnum h' (s.heap.objs.size + 1) s.heap.objs.size 0 .none → h'.IsTupleIter s.heap.objs.size l 0 → h'.objs.size = s.heap.objs.size + 2 →
      (∀ b o, s.heap.get? b = some o → h'.get? b = some o) → Q (.ref (s.heap.objs.size + 1)) { s with heap := h' }) :
    wpAny (model prog w) A (call (.type "enumerate") [.ref l]) Q E s := by
  obtain ⟨⟨c, dct, dt, sl⟩, hl, hc, n, hd⟩ := hL
  replace hc : c = .type "tuple" := hc
  replace hd : dt = .seq items n := hd
  subst hc hd
  refine callType_new F.called_enumerate (by decide) (F.typeCall_enumerate_1 _) (F.newCall_enumerate_1 _) (fun obj => F.args_object_init_2 obj _) F.entry_enumerate_new
    (meets_enumerate_newTup l items n dct sl) ⟨hl, ?_⟩
  have hz : (s.heap.push { cls := .type "tuple_iterator", data := .fields #[.ref l, .int 0 0] }).objs.size = s.heap.objs.size + 1 := Heap.size_push ..
  show _ ∧ _
  rw [hz]
  have he : IsEnum ((s.heap.push { cls := .type "tuple_iterator", data := .fields #[.ref l, .int 0 0] }).push
      { cls := .type "enumerate", data := .fields #[.none, .bool false, .ref s.heap.objs.size, rawInt 0, .none, .none] }) (s.heap.objs.size + 1) s.heap.objs.size 0 .none := by
    have := Heap.get?_push_size (s.heap.push { cls := .type "tuple_iterator", data := .fields #[.ref l, .int 0 0] })
      (o := { cls := .type "enumerate", data := .fields #[.none, .bool false, .ref s.heap.objs.size, rawInt 0, .none, .none] }) rfl
    rw [hz] at this; exact this
  refine ⟨⟨_, he, rfl⟩, h _ he ⟨_, Heap.get?_push_of_some _ (Heap.get?_push_size _ rfl), rfl, rfl⟩ (by rw [Heap.size_push, hz]) fun b o x => Heap.get?_push_of_some _ (Heap.get?_push_of_some _ x)⟩
end
end PySem
namespace Ek
open PySem PySem.Spec PyProof.Rows L2
/-- the tuple at a, each item in a new pair -/
def IteT (K : PySem.W.Frag) (a : Addr) : It :=
  ⟨fun i H => ∃ (xs : List V) (x : V), SqT K H a xs ∧ xs[i]? = some x, fun i H v H' => ∃ T x, v = .ref T ∧ H T = none ∧ H' = upd H T (.tup [.int (i : Nat), x]) ∧ ∀ xs, SqT K H a xs → xs[i]? = some x, fun i H => ∃ xs : List V, SqT K H a xs ∧ xs.length ≤ i⟩
theorem turn_enumT {P : Program} {w : World} {K : PySem.W.Frag} {elts : List Expr} {kk : Nat} {tpos : Pos} (a e it : Addr) :
    Turn P w K (.Tuple elts kk tpos) (IteT K a) [e, it] e (fun i h => (∃ old, IsEnum h e it ((i : Nat) : Int) old) ∧ h.IsTupleIter it a i ∧ e ≠ it) where
  mem := by simp
  obj := fun i h st b hb => by
    obtain ⟨⟨old, he⟩, ⟨o, ho, hc, hd⟩, _⟩ := st
    have e' : b = e ∨ b = it := by simpa using hb
    rcases e' with z | z
    · rw [z]; exact ⟨_, he, fun v q => nomatch q⟩
    · rw [z]; exact ⟨o, ho, fun v q => by rw [hd] at q; cases q⟩
  keep := fun i h h' st k => let ⟨⟨old, he⟩, hi, hne⟩ := st; ⟨⟨old, k e (by simp) _ he⟩, hi.at fun o q => k it (by simp) o q, hne⟩
  item := by
    intro X hP hw hK hc i pins s σ H E I hf st hg
    subst hP hw hK
    obtain ⟨⟨old, he⟩, hit, hne⟩ := st
    obtain ⟨xs, x, hq, hx⟩ := hg
    obtain ⟨its, rv, p, hz⟩ := I.tuple hq
    obtain ⟨u, hu, ru⟩ := rv.get hx
    have hel : e < s.heap.objs.size := Heap.lt_size he
    have hil : it < s.heap.objs.size := by obtain ⟨_, q, _⟩ := hit; exact Heap.lt_size q
    have hait : a ≠ it := fun z => by
      subst z
      obtain ⟨o1, q1, c1, _⟩ := hit
      obtain ⟨o2, q2, c2, _⟩ := p
      rw [q1] at q2
      cases q2
      rw [c1] at c2
      exact absurd c2 (by decide)
    have hea : e ≠ a := fun z => by
      subst z
      obtain ⟨o2, q2, c2, _⟩ := p
      rw [show s.heap.get? e = _ from he] at q2
      cases q2
      exact absurd (show Value.type "enumerate" = Value.type "tuple" from c2) (by decide)
    have D := PySem.Draws.tuple (prog := X.prog) (w := X.w) (A := X.A.in1) (I.ok.hd hc) it a hait its.toArray
    refine wpAny_pyNext_enum_itemD D he ⟨hit, p⟩ (by rw [List.size_toArray, ← rv.length]; exact (List.getElem?_eq_some_iff.mp hx).1) hne (by simp [hne, hea]) fun y h' tk hy ho st' hT hsz hk => ?_
    have ey : y = u := by
      have : its.toArray[i]? = some u := by simpa using hu
      rw [this] at hy
      exact (Option.some.inj hy).symm
    subst ey
    obtain ⟨hit', _⟩ := st'
    refine ⟨_, rfl, wpAny_letOwnedTupleGo_enum (s := { s with heap := h', toks := tk + 1 }) ho fun h'' he' sb => ?_⟩
    have hT2 : h''.get? s.heap.objs.size = some { cls := .type "tuple", data := .seq #[.int i tk, y] } := (sb.2 _ (Nat.ne_of_gt hel)).trans hT
    have new : ObjOk X.prog X.w (upd H s.heap.objs.size (.tup [.int (i : Nat), x])) h'' s.heap.objs.size (.tup [.int (i : Nat), x]) :=
      ⟨by show 2 ≤ sizeLine; decide, [.int i tk, y], .cons ⟨_, rfl⟩ (.cons ru .nil), ⟨_, hT2, rfl, _, rfl⟩⟩
    have I1 : Inv X pins σ (upd H s.heap.objs.size (.tup [.int (i : Nat), x])) { s with heap := h'', toks := tk + 1 } :=
      I.turnedNew (ch := [e, it]) (fun b ob hb q => (sb.2 b (fun z => hb (by simp [z]))).trans (hk b ob (fun z => hb (by simp [z])) (fun z => hb (by simp [z])) q)) hf (Nat.le_refl _) new
    refine ⟨.ref s.heap.objs.size, _, I1, rfl, ⟨_, x, rfl, I.hok.fresh (Nat.le_refl _), rfl, fun ys hy => by rw [I.tuple_inj hy hq]; exact hx⟩, ⟨⟨y, ?_⟩, hit'.at fun o q => (sb.2 it (Ne.symm hne)).trans q, hne⟩, fun b hb => ?_⟩
    · have e1 : ((i + 1 : Nat) : Int) = (i : Int) + 1 := by omega
      rw [e1]; exact he'
    · have hb' : b < s.heap.objs.size := by
        have e' : b = e ∨ b = it := by simpa using hb
        rcases e' with z | z
        · rw [z]; exact hel
        · rw [z]; exact hil
      rw [upd_ne (Nat.ne_of_lt hb')]
      exact (hf b hb).1
  done := by
    intro X hP hw hK hc i pins s σ H E I hf st hg
    subst hP hw hK
    obtain ⟨⟨old, he⟩, hit, hne⟩ := st
    obtain ⟨xs, hq, hx⟩ := hg
    obtain ⟨its, rv, p, hz⟩ := I.tuple hq
    obtain ⟨f0, f1, f2, f3, f4, f5⟩ := hf it (by simp)
    have hl := rv.length
    have hT : s.TypeIs (.ref e) "enumerate" := ⟨_, he, rfl⟩
    refine (?_ : wpAny (model X.prog X.w) X.A (pyNext (.ref e)) _ _ s)
    unfold pyNext
    refine wpAny_bind (wpAny_attempt (wpAny_callSpecial?_slot (name := Str.ofString "__next__") hT F.slot_enumerate_next
      (wpAny_call_entry F.slot_enumerate_next hT F.entry_enumerate_next ?_ (F.args_enumerate_next_1 _))))
    show wpAny _ _ (field (.ref e) 2 >>= _) _ _ _
    refine wpAny_bind (wpAny_field he rfl (x := .ref it) rfl ?_)
    refine wpAny_bind (wpAny_nextOf_tuple_end (I.ok.hd hc) hit p (by simp; omega) fun h' x he' hx' => ?_)
    obtain ⟨o, ho, hcc⟩ := hx'
    refine wpAny_bind (wpAny_isInstance (T := "StopIteration") (b := true) ⟨o, ho, hcc⟩ isSubtype_stop ?_)
    exact wpAny_pure ⟨rfl, I.turned (t' := s.toks) (fun b o hb q => he' b o hb q) f0 f1 f3 f4 f5⟩
  self := fun A i s Q E st h => let ⟨⟨_, he⟩, _⟩ := st; wpAny_pyIter_enum he h
def iEnumT (K : PySem.W.Frag) (ta : TA) : TI := fun σ H R => ta σ H fun vs H1 => ∃ a xs, vs = [.ref a] ∧ SqT K H1 a xs ∧ R (IteT K a) H1
theorem pi_enumT {X : Cx} {e : Expr} {ta : TA} {p pos tpos : Pos} {elts : List Expr} {kk : Nat} (hg : Gl X "enumerate") (hm : X.mg "enumerate" = none) (ha : PA X [e] ta) (hs : starEach [e] X.env = [(false, eval e X.env)] := by rfl) :
    PI X (.Tuple elts kk tpos) (.Call (.Name "enumerate" p) [e] [] pos) (iEnumT X.K ta) := by
  refine ⟨fun pins s σ H R I h => ?_⟩
  refine Call_ (ld_blt I hg hm boot_enumerate (PyProof.Rows.callWith_type1 (thn (ha.run pos pins s σ H _ I h) fun us s1 ⟨vs, H1, I1, r1, q1⟩ => ?_) hs rfl))
  obtain ⟨a, xs, ex, hq, q⟩ := q1
  subst ex
  cases r1 with
  | cons r rr =>
    cases rr
    cases r
    obtain ⟨its, rv, p', hz⟩ := I1.tuple hq
    refine call_enumerate_tup p' fun h' he hit hsz hk => wpAny_pyIter_enum he ?_
    have I2 : Inv X pins σ H1 { s1 with heap := h' } := I1.kept (t' := s1.toks) hk
    refine ⟨s1.heap.objs.size + 1, [s1.heap.objs.size + 1, s1.heap.objs.size], _, _, H1, rfl, I2, turn_enumT a (s1.heap.objs.size + 1) s1.heap.objs.size, ⟨⟨.none, he⟩, hit, Nat.succ_ne_self _⟩, fun b hb => ?_, q⟩
    have e' : b = s1.heap.objs.size + 1 ∨ b = s1.heap.objs.size := by simpa using hb
    have hle : s1.heap.objs.size ≤ b := by
      rcases e' with z | z
      · rw [z]; exact Nat.le_add_right _ _
      · rw [z]; exact Nat.le_refl _
    exact I1.fpOk hle (I1.hok.fresh hle)
/-- a, b, .. = a list or a tuple -/
def gSq (K : PySem.W.Frag) (n : Nat) (t : TGs) : TG := fun v σ H Q => gTup K n t v σ H Q ∨ gLst K n t v σ H Q
theorem pg_sq {X : Cx} {pos : Pos} {es : List Expr} {k : Nat} {t : TGs} {n : Nat} (hc : X.calm = true) (h : PGs X es t)
    (hn : (assignEach es X.env).length = n := by rfl) (hst : (assignEach es X.env).findIdx? (·.1) = none := by rfl) : PG X (.Tuple es k pos) (gSq X.K n t) := by
  refine ⟨fun pins s σ H v u Q I r hw => ?_⟩
  rcases hw with hw | hw
  · exact (pg_tup hc h hn hst).run pins s σ H v u Q I r hw
  · exact (pg_lst hc h hn hst).run pins s σ H v u Q I r hw
end Ek

/-! Ek11: subscripts, slices, built-in functions, methods, over data. -/
namespace Ek
open PySem PySem.Spec PyProof.Rows L2

section
variable {K : PySem.W.Frag} {W : Wd} {F H F' H' : Hp} {σ σ' : L2.St} {δ δ' : List Sl} {pd pd' : List (V × Sl)} {v : V} {s : Sl} {P : Rs → List Sl → Prop} {r1 r2 : Rs} {te ta tb : TE} {t : TA}
/-! ### subscripts -/
theorem ap_ixO {ds : List Dt} {i : Int} {d : Dt} (hc : r1.its δ = some ds) (e : atI ds i = some d) (p : P (im d) δ) : Ap2 K (oIx K) r1 (im (.int i)) δ P := (ap_ix hc e p).inl
theorem ap_ixOS {z : Str} {i : Int} {c : Nat} (hz : z.length ≤ sizeLine) (e : atI z.cps.toList i = some c) (p : P (im (.str ⟨#[c]⟩)) δ) : Ap2 K (oIx K) (im (.str z)) (im (.int i)) δ P := (ap_ixS hz e p).inl
theorem ap_ixK {x : Dt} {k : Key} {ks : List Key} {ds : List Dt} {d : Dt} (e : x.key = some k) (g : getK ks ds k = some d) (p : P (im d) δ) : Ap2 K (oIx K) (im (.dk ks ds)) (im x) δ P := fun W F H σ pd v1 v2 S k1 k2 Q q => by
  have d1 : Dd K F v1 (.dk ks ds) := S.im1 (s2 := .im x)
  have d2 : Dd K F v2 x := S.im2 (r1 := im (.dk ks ds))
  have ek := d2.key e
  subst ek
  cases d1 with
  | dk h1 h2 =>
    rename_i a xs
    rcases valV_get (k := k) (ks := ks) h2 with ⟨e1, e2⟩ | ⟨v, d', e1, e2, hd⟩
    · rw [g] at e2; cases e2
    · rw [g] at e2
      cases e2
      refine .inr ⟨a, v, rfl, ?_, q F H _ (im _) δ p trivial (S.drop.pushIm hd)⟩
      rw [← e1]
      exact DGet.k (S.FH _ _ h1)
/-! ### slices -/
def Eo (K : PySem.W.Frag) (to : TO) (δ : List Sl) (P : Option Int → List Sl → Prop) : Prop :=
  ∀ W F H σ pd, Sat K W F H σ δ pd → ∀ Q : Option Int → Hp → Prop, (∀ F' H' o δ', P o δ' → Sat K W F' H' σ δ' pd → Q o H') → to σ H Q
theorem eo_no {PO' : Option Int → List Sl → Prop} (p : PO' none δ) : Eo K tNoPart δ PO' := fun W F H σ pd S Q q => q F H none δ p S
theorem eo_pt {PO' : Option Int → List Sl → Prop} (h : Ev K te δ fun r δ' => ∃ i, r = im (.int i) ∧ PO' (some i) δ') : Eo K (tPart te) δ PO' := fun W F H σ pd S Q q => by
  refine h W F H σ pd S _ fun F1 H1 v r δ1 h1 ok S1 => ?_
  obtain ⟨i, rfl, p⟩ := h1
  obtain ⟨as, _, w, e, d⟩ := S1.pnd (k := pd.length) (v := v) (s := .im (.int i)) (by simp [Rs.pend])
  cases e; cases d
  exact ⟨i, rfl, q F1 H1 _ δ1 p S1.drop⟩
def ApSl (K : PySem.W.Frag) (r : V → Option Int → Option Int → Hp → VK → Prop) (r1 : Rs) (lo hi : Option Int) (δ : List Sl) (P : Rs → List Sl → Prop) : Prop :=
  ∀ W F H σ pd v, Sat K W F H σ δ (pd ++ [(v, r1.pend)]) → RsOk σ v r1 → ∀ Q : VK, (∀ F' H' v r δ', P r δ' → RsOk σ v r → Sat K W F' H' σ δ' (pd ++ [(v, r.pend)]) → Q v H') → r v lo hi H Q
theorem ev_sl {r : V → Option Int → Option Int → Hp → VK → Prop} {tl th : TO} (h : Ev K te δ fun r1 δ1 => Eo K tl δ1 fun lo δ2 => Eo K th δ2 fun hi δ3 => ApSl K r r1 lo hi δ3 P) : Ev K (tSl r te tl th) δ P := fun W F H σ pd S Q q => by
  refine h W F H σ pd S _ fun F1 H1 v r1 δ1 h1 ok S1 => ?_
  refine h1 W F1 H1 σ _ S1 _ fun F2 H2 lo δ2 h2 S2 => ?_
  refine h2 W F2 H2 σ _ S2 _ fun F3 H3 hi δ3 h3 S3 => ?_
  exact h3 W F3 H3 σ pd v S3 ok Q q
def cutD (xs : List Dt) (lo hi : Option Int) : List Dt := (xs.drop (HT.sIx xs.length 0 lo)).take (HT.sIx xs.length xs.length hi - HT.sIx xs.length 0 lo)
theorem DdAll.cut {xs : List V} {ds : List Dt} {lo hi : Option Int} (h : DdAll K F xs ds) : DdAll K F (cutV xs lo hi) (cutD ds lo hi) := by
  unfold cutV cutD
  rw [h.length]
  exact (h.drop _).take _
def Sl.lqd : Sl → Option (List Dt)
  | .im (.lst ds) => some ds
  | .im (.sq ds) => some ds
  | .ls ds => some ds
  | .ln _ ds => some ds
  | _ => none
def Rs.lqd (δ : List Sl) : Rs → Option (List Dt)
  | .sl s => s.lqd
  | .bo i => (δ[i]?).bind Sl.lqd
theorem ownS_lqd {v : V} {as : List Addr} {s : Sl} {ds : List Dt} (h : OwnS K W F H (some v) as s) (sF : Same F H) (hc : s.lqd = some ds) : ∃ a xs, v = .ref a ∧ SqL K H a xs ∧ DdAll K F xs ds := by
  cases s with
  | un => cases hc
  | im e =>
    obtain ⟨_, w, e1, q⟩ := h
    cases e1
    cases q with
    | lst h1 h2 => cases hc; exact ⟨_, _, rfl, SqL.of (sF _ _ h1), h2⟩
    | sq h1 h2 => cases hc; exact ⟨_, _, rfl, sF.seq h1, h2⟩
    | _ => cases hc
  | ls es =>
    obtain ⟨p, xs, e1, _, e2, q, _⟩ := h
    cases e1; cases hc
    exact ⟨p, xs, rfl, SqL.of e2, q⟩
  | ln k es =>
    obtain ⟨p, xs, e1, _, e2, q, _⟩ := h
    cases e1; cases hc
    exact ⟨p, xs, rfl, SqL.of e2, q⟩
  | mt rows => cases hc
theorem Sat.lqd (h : Sat K W F H σ δ pd) {k : Nat} {v : V} {r : Rs} {ds : List Dt} (e : pd[k]? = some (v, r.pend)) (ok : RsOk σ v r) (hc : r.lqd δ = some ds) : ∃ a xs, v = .ref a ∧ SqL K H a xs ∧ DdAll K F xs ds := by
  cases r with
  | sl s =>
    obtain ⟨as, o⟩ := h.pnd e
    exact ownS_lqd o h.FH hc
  | bo i =>
    have hc : (δ[i]?).bind Sl.lqd = some ds := hc
    cases q : δ[i]? with
    | none => rw [q] at hc; cases hc
    | some s =>
      rw [q] at hc
      obtain ⟨w, as, e1, o⟩ := h.slot q (fun z => by subst z; cases hc)
      have ok : σ[i]? = some (some v) := ok
      rw [ok] at e1
      cases e1
      exact ownS_lqd o h.FH hc
theorem one0 {x : V × Sl} : (pd ++ [x])[pd.length]? = some x := by simp
theorem ap_slL {ds : List Dt} {lo hi : Option Int} (hc : r1.lqd δ = some ds) (p : P (.sl (.ls (cutD ds lo hi))) δ) : ApSl K (oSl K) r1 lo hi δ P := fun W F H σ pd v S ok Q q => by
  obtain ⟨a, xs, rfl, h1, e1⟩ := S.lqd one0 ok hc
  exact .inl ⟨a, xs, rfl, h1, fun p' hp => q _ _ _ (.sl (.ls _)) δ p trivial (S.drop.newLs hp e1.cut)⟩
theorem ap_slT {ds : List Dt} {lo hi : Option Int} (p : P (im (.tup (cutD ds lo hi))) δ) : ApSl K (oSl K) (im (.tup ds)) lo hi δ P := fun W F H σ pd v S ok Q q => by
  have d1 : Dd K F v (.tup ds) := S.popIm (k := pd.length) one0
  cases d1 with
  | tup h1 h2 =>
    rename_i a xs
    refine .inr (.inl ⟨a, xs, rfl, sqT_mono S.FH h1, fun hw => ?_, fun _ p' hp => q _ _ _ (im _) δ p trivial (S.drop.newT hp h2.cut).1⟩)
    have : cutD ds lo hi = ds := by
      unfold cutD
      rw [← h2.length, hw.1, hw.2, List.drop_zero, Nat.sub_zero, List.take_of_length_le (by rw [h2.length]; exact Nat.le_refl _)]
    rw [this] at p
    exact q F H _ (im _) δ p trivial S
theorem ap_slS {z : Str} {lo hi : Option Int} (hz : z.length ≤ sizeLine) (p : P (im (.str (cutS z lo hi))) δ) : ApSl K (oSl K) (im (.str z)) lo hi δ P := fun W F H σ pd v S ok Q q => by
  have d1 : Dd K F v (.str z) := S.popIm (k := pd.length) one0
  cases d1
  exact .inr (.inr ⟨z, rfl, hz, q F H _ (im _) δ p trivial (S.drop.pushIm (.str _))⟩)
/-- xs[::-1] -/
theorem ev_revL (h : Ev K te δ fun r δ' => ∃ ds, r.lqd δ' = some ds ∧ P (.sl (.ls ds.reverse)) δ') : Ev K (tRevA K te) δ P := fun W F H σ pd S Q q => by
  refine h W F H σ pd S _ fun F1 H1 v r δ1 h1 ok S1 => ?_
  obtain ⟨ds, hc, p⟩ := h1
  obtain ⟨a, xs, rfl, hs, e1⟩ := S1.lqd one0 ok hc
  exact .inl ⟨a, xs, rfl, hs, fun p' hp => q _ _ _ (.sl (.ls _)) δ1 p trivial (S1.drop.newLs hp e1.rev)⟩
theorem ev_revT (h : Ev K te δ fun r δ' => ∃ ds, r = im (.tup ds) ∧ P (im (.tup ds.reverse)) δ') : Ev K (tRevA K te) δ P := fun W F H σ pd S Q q => by
  refine h W F H σ pd S _ fun F1 H1 v r δ1 h1 ok S1 => ?_
  obtain ⟨ds, rfl, p⟩ := h1
  have d1 : Dd K F1 v (.tup ds) := S1.popIm (k := pd.length) one0
  cases d1 with
  | tup h1 h2 => exact .inr ⟨_, _, rfl, sqT_mono S1.FH h1, fun p' hp => q _ _ _ (im _) δ1 p trivial (S1.drop.newT hp h2.rev).1⟩
/-! ### built-in functions -/
theorem ev_cb {r : List V → Hp → VK → Prop} (h : Ea K t δ fun rs δ' => ApC K r rs δ' P) : Ev K (tCB r t) δ P := fun W F H σ pd S Q q =>
  h W F H σ pd S _ fun F1 H1 vs rs δ1 h1 oks S1 => h1 W F1 H1 σ pd vs S1 oks Q q
theorem RsAll.one {vs : List V} {r : Rs} (h : RsAll σ vs [r]) : ∃ v, vs = [v] ∧ RsOk σ v r := by
  cases h with
  | cons a b => cases b; exact ⟨_, rfl, a⟩
theorem RsAll.two {vs : List V} {r r' : Rs} (h : RsAll σ vs [r, r']) : ∃ v v', vs = [v, v'] ∧ RsOk σ v r ∧ RsOk σ v' r' := by
  cases h with
  | cons a b => cases b with | cons c d => cases d; exact ⟨_, _, rfl, a, c⟩
/-- of one value -/
theorem apC1 {r : List V → Hp → VK → Prop} (h : ∀ W F H σ pd v, Sat K W F H σ δ (pd ++ [(v, r1.pend)]) → RsOk σ v r1 → ∀ Q : VK, (∀ F' H' v r δ', P r δ' → RsOk σ v r → Sat K W F' H' σ δ' (pd ++ [(v, r.pend)]) → Q v H') → r [v] H Q) : ApC K r [r1] δ P := fun W F H σ pd vs S oks Q q => by
  obtain ⟨v, rfl, ok⟩ := oks.one
  exact h W F H σ pd v S ok Q q
theorem ap_len {ds : List Dt} (hc : r1.its δ = some ds) (p : P (im (.int ds.length)) δ) : ApC K (oLen K) [r1] δ P := apC1 fun W F H σ pd v S ok Q q => by
  obtain ⟨a, xs, rfl, hs, hd⟩ := S.its one0 ok hc
  refine .inl ⟨a, xs, rfl, hs, ?_⟩
  rw [hd.length]
  exact q F H _ (im _) δ p trivial (S.drop.pushIm (.int _))
theorem ap_lenS {z : Str} (hz : z.length ≤ sizeLine) (p : P (im (.int z.length)) δ) : ApC K (oLen K) [im (.str z)] δ P := apC1 fun W F H σ pd v S ok Q q => by
  have d1 : Dd K F v (.str z) := S.popIm (k := pd.length) one0
  cases d1
  exact .inr ⟨z, rfl, hz, q F H _ (im _) δ p trivial (S.drop.pushIm (.int _))⟩
def Dt.tn : Dt → Option String
  | .non => some "NoneType" | .bl _ => some "bool" | .int _ => some "int" | .str _ => some "str" | .tup _ => some "tuple" | .lst _ => some "list" | .sq _ => some "list"
  | _ => none
theorem Dd.tyx {d : Dt} {n : String} (h : Dd K H v d) (e : d.tn = some n) : TyX K H v (.type n) := by
  cases h with
  | non => cases e; exact .base .non
  | bl b => cases e; exact .base (.bl b)
  | int b => cases e; exact .base (.int b)
  | str b => cases e; exact .base (.str b)
  | tup h1 h2 =>
    cases e
    rcases h1 with (h1 | ⟨o, h1⟩) | ⟨o, its, m, h1, h2, _⟩
    · exact .base (.tup h1)
    · exact .fTuple h1
    · exact .kTuple h1 h2
  | lst h1 h2 => cases e; exact .base (.lst h1)
  | sq h1 h2 =>
    cases e
    rcases h1 with (h1 | ⟨o, h1⟩) | ⟨o, its, m, h1, h2, _⟩
    · exact .base (.lst h1)
    · exact .base (.frz h1)
    · exact .kList h1 h2
  | obj h1 h2 h3 => cases e
  | ty n => cases e
  | rf a => cases e
  | dk h1 h2 => cases e
theorem ap_isi {x : Dt} {n m : String} {b : Bool} (c1 : r1.con δ = some x) (e : x.tn = some n) (hb : kitB n m = some b) (p : P (im (.bl b)) δ) : ApC K (rIsi K) [r1, im (.ty m)] δ P := fun W F H σ pd vs S oks Q q => by
  obtain ⟨v, u, rfl, o1, o2⟩ := oks.two
  have S : Sat K W F H σ δ (pd ++ [(v, r1.pend), (u, .im (.ty m))]) := S
  have d1 := S.val two1 o1 c1
  have d2 : Dd K F u (.ty m) := S.im2
  cases d2
  exact ⟨v, _, _, _, b, rfl, .ty m, d1.tyx e, kit_ty hb, q F H _ (im _) δ p trivial (S.drop.pushIm (.bl _))⟩
theorem DdAll.bls : ∀ {xs : List V} {bs : List Bool}, DdAll K F xs (bs.map Dt.bl) → xs = bs.map V.bl
  | _, [], .nil => rfl
  | _, b :: bs, .cons h k => by cases h; rw [List.map_cons, DdAll.bls k]
theorem DdAll.ints : ∀ {xs : List V} {bs : List Int}, DdAll K F xs (bs.map Dt.int) → xs = bs.map V.int
  | _, [], .nil => rfl
  | _, b :: bs, .cons h k => by cases h; rw [List.map_cons, DdAll.ints k]
theorem DdAll.strs : ∀ {xs : List V} {bs : List Str}, DdAll K F xs (bs.map Dt.str) → xs = bs.map V.str
  | _, [], .nil => rfl
  | _, b :: bs, .cons h k => by cases h; rw [List.map_cons, DdAll.strs k]
theorem ap_all {bs : List Bool} (hc : r1.lqd δ = some (bs.map .bl)) (p : P (im (.bl (bs.all id))) δ) : ApC K (rAll K) [r1] δ P := apC1 fun W F H σ pd v S ok Q q => by
  obtain ⟨a, xs, rfl, hs, hd⟩ := S.lqd one0 ok hc
  rw [hd.bls] at hs
  exact ⟨a, bs, rfl, hs, q F H _ (im _) δ p trivial (S.drop.pushIm (.bl _))⟩
theorem ap_any {bs : List Bool} (hc : r1.lqd δ = some (bs.map .bl)) (p : P (im (.bl (bs.any id))) δ) : ApC K (rAny K) [r1] δ P := apC1 fun W F H σ pd v S ok Q q => by
  obtain ⟨a, xs, rfl, hs, hd⟩ := S.lqd one0 ok hc
  rw [hd.bls] at hs
  exact ⟨a, bs, rfl, hs, q F H _ (im _) δ p trivial (S.drop.pushIm (.bl _))⟩
theorem ap_sum {ns : List Int} (hc : r1.lqd δ = some (ns.map .int)) (p : P (im (.int ns.sum)) δ) : ApC K (rSum K) [r1] δ P := apC1 fun W F H σ pd v S ok Q q => by
  obtain ⟨a, xs, rfl, hs, hd⟩ := S.lqd one0 ok hc
  rw [hd.ints] at hs
  exact ⟨a, ns, rfl, hs, q F H _ (im _) δ p trivial (S.drop.pushIm (.int _))⟩
def rAbs : List V → Hp → VK → Prop := fun xs H Q => ∃ i, xs = [.int i] ∧ Q (.int (if i < 0 then -i else i)) H
def rMax : List V → Hp → VK → Prop := fun xs H Q => ∃ i j, xs = [.int i, .int j] ∧ Q (.int (if j > i then j else i)) H
def rMin : List V → Hp → VK → Prop := fun xs H Q => ∃ i j, xs = [.int i, .int j] ∧ Q (.int (if j < i then j else i)) H
def rInt : List V → Hp → VK → Prop := fun xs H Q => (∃ i, xs = [.int i] ∧ Q (.int i) H) ∨ ∃ k, xs = [.bl k] ∧ Q (.int (if k then 1 else 0)) H
def rLstOf (K : PySem.W.Frag) : List V → Hp → VK → Prop := fun xs H Q => ∃ p ys, xs = [.ref p] ∧ (SqL K H p ys ∨ SqT K H p ys) ∧ ∀ l, H l = none → Q (.ref l) (upd H l (.lst ys))
def rTupOf (K : PySem.W.Frag) : List V → Hp → VK → Prop := fun xs H Q => ∃ p ys, xs = [.ref p] ∧ ((SqL K H p ys ∧ ∀ l, H l = none → Q (.ref l) (upd H l (.tup ys))) ∨ (SqT K H p ys ∧ Q (.ref p) H))
theorem ap_abs {i : Int} (p : P (im (.int (i.natAbs : Int))) δ) : ApC K rAbs [im (.int i)] δ P := apC1 fun W F H σ pd v S ok Q q => by
  have d1 : Dd K F v (.int i) := S.popIm (k := pd.length) one0
  cases d1
  have e : (if i < 0 then -i else i) = (i.natAbs : Int) := by split <;> omega
  refine ⟨i, rfl, ?_⟩
  rw [e]
  exact q F H _ (im _) δ p trivial (S.drop.pushIm (.int _))
theorem ap_int {i : Int} (p : P (im (.int i)) δ) : ApC K rInt [im (.int i)] δ P := apC1 fun W F H σ pd v S ok Q q => by
  have d1 : Dd K F v (.int i) := S.popIm (k := pd.length) one0
  cases d1
  exact .inl ⟨i, rfl, q F H _ (im _) δ p trivial (S.drop.pushIm (.int _))⟩
theorem ap_intB {b : Bool} (p : P (im (.int (if b then 1 else 0))) δ) : ApC K rInt [im (.bl b)] δ P := apC1 fun W F H σ pd v S ok Q q => by
  have d1 : Dd K F v (.bl b) := S.popIm (k := pd.length) one0
  cases d1
  exact .inr ⟨b, rfl, q F H _ (im _) δ p trivial (S.drop.pushIm (.int _))⟩
theorem ap_max {i j : Int} (p : P (im (.int (max i j))) δ) : ApC K rMax [im (.int i), im (.int j)] δ P := fun W F H σ pd vs S oks Q q => by
  obtain ⟨v, u, rfl, o1, o2⟩ := oks.two
  have S : Sat K W F H σ δ (pd ++ [(v, .im (.int i)), (u, .im (.int j))]) := S
  have d1 : Dd K F v (.int i) := S.im1
  have d2 : Dd K F u (.int j) := S.im2 (r1 := im (.int i))
  cases d1; cases d2
  have e : (if j > i then j else i) = max i j := by split <;> omega
  refine ⟨i, j, rfl, ?_⟩
  rw [e]
  exact q F H _ (im _) δ p trivial (S.drop.pushIm (.int _))
theorem ap_min {i j : Int} (p : P (im (.int (min i j))) δ) : ApC K rMin [im (.int i), im (.int j)] δ P := fun W F H σ pd vs S oks Q q => by
  obtain ⟨v, u, rfl, o1, o2⟩ := oks.two
  have S : Sat K W F H σ δ (pd ++ [(v, .im (.int i)), (u, .im (.int j))]) := S
  have d1 : Dd K F v (.int i) := S.im1
  have d2 : Dd K F u (.int j) := S.im2 (r1 := im (.int i))
  cases d1; cases d2
  have e : (if j < i then j else i) = min i j := by split <;> omega
  refine ⟨i, j, rfl, ?_⟩
  rw [e]
  exact q F H _ (im _) δ p trivial (S.drop.pushIm (.int _))
theorem ap_list {ds : List Dt} (hc : r1.its δ = some ds) (p : P (.sl (.ls ds)) δ) : ApC K (rLstOf K) [r1] δ P := apC1 fun W F H σ pd v S ok Q q => by
  obtain ⟨a, xs, rfl, hs, hd⟩ := S.its one0 ok hc
  exact ⟨a, xs, rfl, hs, fun l hl => q _ _ _ (.sl (.ls ds)) δ p trivial (S.drop.newLs hl hd)⟩
theorem ap_tupL {ds : List Dt} (hc : r1.lqd δ = some ds) (p : P (im (.tup ds)) δ) : ApC K (rTupOf K) [r1] δ P := apC1 fun W F H σ pd v S ok Q q => by
  obtain ⟨a, xs, rfl, hs, hd⟩ := S.lqd one0 ok hc
  exact ⟨a, xs, rfl, .inl ⟨hs, fun l hl => q _ _ _ (im _) δ p trivial (S.drop.newT hl hd).1⟩⟩
theorem ap_tupT {ds : List Dt} (p : P (im (.tup ds)) δ) : ApC K (rTupOf K) [im (.tup ds)] δ P := apC1 fun W F H σ pd v S ok Q q => by
  have d1 : Dd K F v (.tup ds) := S.popIm (k := pd.length) one0
  cases d1 with
  | tup h1 h2 => exact ⟨_, _, rfl, .inr ⟨sqT_mono S.FH h1, q F H _ (im _) δ p trivial (S.drop.pushIm (.tup h1 h2))⟩⟩
theorem ap_repr {x : Dt} {d : PyData} (c1 : r1.con δ = some x) (e : x.py = some d) (sh : Shw d) (p : P (im (.str d.shown)) δ) : ApC K (rRepr K) [r1] δ P := apC1 fun W F H σ pd v S ok Q q =>
  ⟨v, d, rfl, (S.val one0 ok c1).dp e, sh, q F H _ (im _) δ p trivial (S.drop.pushIm (.str _))⟩
/-- list(range(n)), list(range(a, b)) -/
theorem rg_dd {a b : Int} : DdAll K F (rgV a b) (rngD a 1 (b - a).toNat) := by
  unfold rgV rngD
  have : ∀ l : List Nat, DdAll K F (l.map fun i => V.int (a + (i : Nat))) (l.map fun i => Dt.int (a + (i : Nat) * 1)) := fun l => by
    induction l with
    | nil => exact .nil
    | cons i l ih =>
      rw [List.map_cons, List.map_cons]
      refine .cons ?_ ih
      rw [Int.mul_one]
      exact .int _
  exact this _
theorem ev_lrg1 (h : Ev K ta δ fun r δ' => ∃ n : Int, r = im (.int n) ∧ RgOk 0 n ∧ P (.sl (.ls (rngD 0 1 n.toNat))) δ') : Ev K (tLstRg (tRg1 ta)) δ P := fun W F H σ pd S Q q => by
  refine h W F H σ pd S _ fun F1 H1 v r δ1 h1 ok S1 => ?_
  obtain ⟨n, rfl, g, p⟩ := h1
  have d1 : Dd K F1 v (.int n) := S1.popIm (k := pd.length) one0
  cases d1
  refine ⟨n, rfl, g, fun l hl => q _ _ _ (.sl (.ls _)) δ1 p trivial (S1.drop.newLs hl ?_)⟩
  have := rg_dd (K := K) (F := F1) (a := 0) (b := n)
  rw [Int.sub_zero] at this
  exact this
/-- -x -/
theorem ev_neg (h : Ev K ta δ fun r δ' => ∃ n : Int, r = im (.int n) ∧ P (im (.int (-n))) δ') : Ev K (tUn (rU fun i => .int (-i)) ta) δ P := fun W F H σ pd S Q q => by
  refine h W F H σ pd S _ fun F1 H1 v r δ1 h1 ok S1 => ?_
  obtain ⟨n, rfl, p⟩ := h1
  have d1 : Dd K F1 v (.int n) := S1.popIm (k := pd.length) one0
  cases d1
  exact ⟨n, rfl, q _ _ _ (im _) δ1 p trivial (S1.drop.pushIm (.int _))⟩
def Dt.isN : Dt → Bool
  | .non => true
  | _ => false
theorem Dd.isN {d : Dt} (h : Dd K H v d) : decide (v = .non) = d.isN := by
  cases h <;> simp [Dt.isN]
theorem ev_isN (h : Ev K ta δ fun r δ' => ∃ d, r.con δ' = some d ∧ P (im (.bl d.isN)) δ') : Ev K (tIsN ta) δ P := fun W F H σ pd S Q q => by
  refine h W F H σ pd S _ fun F1 H1 v r δ1 h1 ok S1 => ?_
  obtain ⟨d, c, p⟩ := h1
  have d1 := S1.val one0 ok c
  show Q (.bl (decide (v = .non))) H1
  rw [d1.isN]
  exact q _ _ _ (im _) δ1 p trivial (S1.drop.pushIm (.bl _))
theorem ev_notN (h : Ev K ta δ fun r δ' => ∃ d, r.con δ' = some d ∧ P (im (.bl (!d.isN))) δ') : Ev K (tNotN ta) δ P := fun W F H σ pd S Q q => by
  refine h W F H σ pd S _ fun F1 H1 v r δ1 h1 ok S1 => ?_
  obtain ⟨d, c, p⟩ := h1
  have d1 := S1.val one0 ok c
  show Q (.bl (!decide (v = .non))) H1
  rw [d1.isN]
  exact q _ _ _ (im _) δ1 p trivial (S1.drop.pushIm (.bl _))
/-- sep.join(xs) -/
theorem ev_join {sep : Str} {r : V → List V → Hp → VK → Prop} (hr : r = fun x xs H Q => ∃ a p, ∃ ys : List Str, x = .str a ∧ xs = [.ref p] ∧ (SqL K H p (ys.map V.str) ∨ SqT K H p (ys.map V.str)) ∧
      (ys.map (·.length)).sum + ys.length * a.length ≤ 16777216 ∧ Q (.str (Txt.join a ys)) H)
    (h : Ev K ta δ fun r1 δ1 => r1 = im (.str sep) ∧ Ev K tb δ1 fun r2 δ2 => ∃ ys : List Str, r2.its δ2 = some (ys.map .str) ∧ (ys.map (·.length)).sum + ys.length * sep.length ≤ 16777216 ∧ P (im (.str (Txt.join sep ys))) δ2) : Ev K (tM1 r ta tb) δ P := fun W F H σ pd S Q q => by
  subst hr
  refine h W F H σ pd S _ fun F1 H1 v r δ1 h1 ok S1 => ?_
  obtain ⟨rfl, h1⟩ := h1
  have d1 : Dd K F1 v (.str sep) := S1.popIm (k := pd.length) one0
  cases d1
  refine ⟨⟨sep, rfl⟩, h1 W F1 H1 σ pd S1.drop _ fun F2 H2 u r2 δ2 h2 ok2 S2 => ?_⟩
  obtain ⟨ys, hc, hz, p⟩ := h2
  obtain ⟨a, xs, rfl, hs, hd⟩ := S2.its one0 ok2 hc
  rw [hd.strs] at hs
  exact ⟨sep, a, ys, rfl, rfl, hs, hz, q _ _ _ (im _) δ2 p trivial (S2.drop.pushIm (.str _))⟩
end
section
variable {X : Cx}
theorem call_max' (hc : X.calm = true) : CallR X (.builtin "max") rMax := call_max2 hc
theorem call_min' (hc : X.calm = true) : CallR X (.builtin "min") rMin := call_min2 hc
theorem call_abs' : CallR X (.builtin "abs") rAbs := call_abs
theorem call_int' : CallR X (.type "int") rInt := call_int1
theorem call_list' : CallR X (.type "list") (rLstOf X.K) := call_list_of
theorem call_tup' : CallR X (.type "tuple") (rTupOf X.K) := call_tuple_of
end
end Ek

/-! Ek12: lists' methods, stores, matrices, targets, dict comprehensions, over data. -/
namespace Ek
open PySem PySem.Spec PyProof.Rows L2

section
variable {K : PySem.W.Frag} {W : Wd} {F H F' H' : Hp} {σ σ' : L2.St} {δ δ' : List Sl} {pd pd' : List (V × Sl)} {v : V} {s : Sl} {P : Rs → List Sl → Prop} {r1 r2 : Rs} {te ta tb : TE} {t : TA} {N : Nd} {i : Nat}
theorem lsts_own {s : Sl} {ds : List Dt} (h : s.lsts = some ds) : s.own = true := by
  cases s <;> simp only [Sl.lsts, reduceCtorEq] at h <;> rfl
theorem Sat.ref (S : Sat K W F H σ δ pd) {s : Sl} {ds : List Dt} (e : δ[i]? = some s) (hs : s.lsts = some ds) : ∃ p xs, σ[i]? = some (some (.ref p)) ∧ H p = some (.lst xs) ∧ DdAll K F xs ds := by
  obtain ⟨v, as, e1, o⟩ := S.slot e (fun z => by subst z; cases hs)
  cases s with
  | ls es =>
    obtain ⟨p, xs, a1, a2, a3, a4, a5⟩ := o
    cases a1; cases hs
    exact ⟨p, xs, e1, a3, a4⟩
  | ln k es =>
    obtain ⟨p, xs, a1, a2, a3, a4, a5⟩ := o
    cases a1; cases hs
    exact ⟨p, xs, e1, a3, a4⟩
  | un => cases hs
  | im d => cases hs
  | mt rows => cases hs
/-- a method of the list in slot i -/
def MtL (K : PySem.W.Frag) (r : V → List V → Hp → VK → Prop) (i : Nat) (rs : List Rs) (δ : List Sl) (P : Rs → List Sl → Prop) : Prop :=
  ∀ W F H σ pd p vs, Sat K W F H σ δ (pd ++ pends vs rs) → σ[i]? = some (some (.ref p)) → RsAll σ vs rs → ∀ Q : VK,
    (∀ F' H' v r δ', P r δ' → RsOk σ v r → Sat K W F' H' σ δ' (pd ++ [(v, r.pend)]) → Q v H') → r (.ref p) vs H Q
theorem ev_bm {r : V → List V → Hp → VK → Prop} {s : Sl} {ds : List Dt} (e : δ[i]? = some s) (hs : s.lsts = some ds) (h : Ea K t δ fun rs δ1 => MtL K r i rs δ1 P) : Ev K (tBM K "list" r (tVar i) t) δ P := fun W F H σ pd S Q q => by
  obtain ⟨p, xs, e1, e2, _⟩ := S.ref e hs
  refine ⟨.ref p, e1, .inl ⟨rfl, xs, SqL.of e2⟩, ?_⟩
  refine h W F H σ pd S _ fun F1 H1 vs rs δ1 h1 oks S1 => ?_
  exact h1 W F1 H1 σ pd p vs S1 e1 oks Q q
theorem ev_bm0 {r : V → List V → Hp → VK → Prop} {s : Sl} {ds : List Dt} (e : δ[i]? = some s) (hs : s.lsts = some ds) (h : MtL K r i [] δ P) : Ev K (tBM0 K "list" r (tVar i)) δ P := fun W F H σ pd S Q q => by
  obtain ⟨p, xs, e1, e2, _⟩ := S.ref e hs
  refine ⟨.ref p, e1, .inl ⟨rfl, xs, SqL.of e2⟩, ?_⟩
  exact h W F H σ pd p [] (by simpa [pends] using S) e1 .nil Q q
theorem mt_app {s : Sl} {ds : List Dt} {e : Dt} (es : δ[i]? = some s) (hs : s.lsts = some ds) (hf : r1.fd = some e) (hz : ds.length < sizeLine) (p : P (im .non) (δ.set i (s.put (ds ++ [e])))) : MtL K rAppend i [r1] δ P := fun W F H σ pd a vs S ea oks Q q => by
  obtain ⟨v, rfl, ok⟩ := oks.one
  have S : Sat K W F H σ δ (pd ++ [(v, r1.pend)]) := S
  cases r1 with
  | bo j => cases hf
  | sl s0 =>
    obtain ⟨F1, s1, S1⟩ := S.frzPd (k := pd.length) (v := v) (s := s0) (d := e) (by simp [Rs.pend]) hf
    have eq : (pd ++ [(v, (Rs.sl s0).pend)]).set pd.length (v, Sl.im e) = pd ++ [(v, Sl.im e)] := by
      rw [List.set_append_right _ _ (Nat.le_refl _), Nat.sub_self]; rfl
    rw [eq] at S1
    have hd : Dd K F1 v e := S1.popIm (k := pd.length) one0
    obtain ⟨xs, x1, x2, x3⟩ := S1.drop.putSlot es hs ea
    refine ⟨a, xs, v, rfl, rfl, x1, by rw [x2.length]; exact hz, ?_⟩
    exact q F1 _ _ (im .non) _ p trivial ((x3 _ _ (x2.snoc hd)).pushIm .non)
theorem mt_ext {s : Sl} {ds ys : List Dt} (es : δ[i]? = some s) (hs : s.lsts = some ds) (hc : r1.lsd δ = some ys ∨ r1 = im (.tup ys)) (hz : ds.length + ys.length ≤ sizeLine) (p : P (im .non) (δ.set i (s.put (ds ++ ys)))) : MtL K (oExt K) i [r1] δ P := fun W F H σ pd a vs S ea oks Q q => by
  obtain ⟨v, rfl, ok⟩ := oks.one
  have S : Sat K W F H σ δ (pd ++ [(v, r1.pend)]) := S
  obtain ⟨xs, x1, x2, x3⟩ := S.drop.putSlot es hs ea
  rcases hc with hc | rfl
  · obtain ⟨b, zs, rfl, z1, z2⟩ := S.lsd one0 ok hc
    refine .inl ⟨a, b, xs, zs, rfl, rfl, x1, z1, by rw [x2.length, z2.length]; exact hz, ?_⟩
    exact q F _ _ (im .non) _ p trivial ((x3 _ _ (x2.append z2)).pushIm .non)
  · have hd : Dd K F v (.tup ys) := S.popIm (k := pd.length) one0
    cases hd with
    | tup z1 z2 =>
      refine .inr ⟨a, _, xs, _, rfl, rfl, x1, sqT_mono S.FH z1, by rw [x2.length, z2.length]; exact hz, ?_⟩
      exact q F _ _ (im .non) _ p trivial ((x3 _ _ (x2.append z2)).pushIm .non)
theorem DdAll.init {xs : List V} {ds : List Dt} (h : DdAll K F xs ds) : DdAll K F xs.dropLast ds.dropLast := by
  rw [List.dropLast_eq_take, List.dropLast_eq_take, h.length]
  exact h.take _
theorem mt_popL {s : Sl} {ds : List Dt} {d : Dt} (es : δ[i]? = some s) (hs : s.lsts = some ds) (hd : ds[ds.length - 1]? = some d) (p : P (im d) (δ.set i (s.put ds.dropLast))) : MtL K rPop i [] δ P := fun W F H σ pd a vs S ea oks Q q => by
  cases oks
  have S : Sat K W F H σ δ (pd ++ []) := S
  rw [List.append_nil] at S
  obtain ⟨xs, x1, x2, x3⟩ := S.putSlot es hs ea
  obtain ⟨v, e1, e2⟩ := x2.get hd
  refine ⟨a, xs, v, rfl, rfl, x1, by rw [x2.length]; exact e1, ?_⟩
  exact q F _ _ (im d) _ p trivial ((x3 _ _ x2.init).pushIm e2)
/-! ### xs[k] = e -/
theorem es_set {ti : TE} (h : Ev K te δ fun r δ1 => ∃ e s1 d1, r.fd = some e ∧ δ1[i]? = some s1 ∧ s1.lsts = some d1 ∧ Ev K ti δ1 fun r2 δ2 => ∃ (k : Int) (s2 : Sl) (ds : List Dt) (j : Nat), r2 = im (.int k) ∧ δ2[i]? = some s2 ∧ s2.lsts = some ds ∧ ixN ds.length k = some j ∧ N.nx (δ2.set i (s2.put (ds.set j e)))) :
    Es K (tAsg te (gSub (tVar i) ti rSetL)) δ N := fun W F H σ S D D1 => by
  refine h W F H σ [] S _ fun F1 H1 v r δ1 h1 ok S1 => ?_
  obtain ⟨e, s1, d1, hf, e1, hs1, h1⟩ := h1
  cases r with
  | bo j => cases hf
  | sl s0 =>
    obtain ⟨F2, _, S2⟩ := S1.frzPd (k := 0) (v := v) (s := s0) (d := e) rfl hf
    have S2 : Sat K W F2 H1 σ δ1 ([] ++ [(v, Sl.im e)]) := S2
    obtain ⟨p, xs, a1, _, _⟩ := S2.ref e1 hs1
    refine ⟨.ref p, a1, h1 W F2 H1 σ _ S2 _ fun F3 H3 u r2 δ2 h2 ok2 S3 => ?_⟩
    obtain ⟨k, s2, ds, j, rfl, e2, hs2, hj, n⟩ := h2
    have dk : Dd K F3 u (.int k) := S3.popIm (k := 1) rfl
    cases dk
    have S4 : Sat K W F3 H3 σ δ2 [(v, .im e)] := S3.drop (pd' := [(_, _)])
    have he : Dd K F3 v e := S4.popIm (k := 0) rfl
    have S5 : Sat K W F3 H3 σ δ2 [] := S4.drop (pd := [])
    obtain ⟨ys, x1, x2, x3⟩ := S5.putSlot e2 hs2 a1
    refine ⟨p, ys, k, j, rfl, rfl, x1, by rw [x2.length]; exact hj, ?_⟩
    exact D1.1 F3 _ σ _ n (x3 _ _ (x2.set j he))
/-! ### plain readings -/
def Ep (K : PySem.W.Frag) (te : TE) (δ : List Sl) (d : Dt) : Prop :=
  ∀ W F H σ pd, Sat K W F H σ δ pd → ∀ Q : VK, (∀ v, Dd K F v d → Q v H) → te σ H Q
theorem ep_var {d : Dt} (e : δ[i]? = some (.im d)) : Ep K (tVar i) δ d := fun W F H σ pd S Q q => by
  obtain ⟨v, as, e1, _, w, e2, hd⟩ := S.slot e (by intro z; cases z)
  cases e2
  exact ⟨v, e1, q v hd⟩
theorem ep_c {v : V} {d : Dt} (e : vd v = some d) : Ep K (tC v) δ d := fun W F H σ pd S Q q => q v (vd_dd e)
theorem ep_add {a b : Int} (h1 : Ep K ta δ (.int a)) (h2 : Ep K tb δ (.int b)) : Ep K (tOp (oAdd K) ta tb) δ (.int (a + b)) := fun W F H σ pd S Q q =>
  h1 W F H σ pd S _ fun v d1 => h2 W F H σ pd S _ fun u d2 => by
    cases d1; cases d2
    exact .inl ⟨a, b, rfl, rfl, q _ (.int _)⟩
theorem ep_sub {a b : Int} (h1 : Ep K ta δ (.int a)) (h2 : Ep K tb δ (.int b)) : Ep K (tOp (rI0 fun i j => .int (i - j)) ta tb) δ (.int (a - b)) := fun W F H σ pd S Q q =>
  h1 W F H σ pd S _ fun v d1 => h2 W F H σ pd S _ fun u d2 => by
    cases d1; cases d2
    exact ⟨a, b, rfl, rfl, q _ (.int _)⟩
/-! ### matrices of one's own -/
theorem Rws.len : ∀ {bs : List Addr} {rows : List (List Dt)}, Rws K F H bs rows → bs.length = rows.length
  | _, _, .nil => rfl
  | _, _, .cons _ _ _ h => congrArg Nat.succ (Rws.len h)
theorem Rws.get : ∀ {bs : List Addr} {rows : List (List Dt)} {j : Nat} {row : List Dt}, Rws K F H bs rows → rows[j]? = some row → ∃ b xs, bs[j]? = some b ∧ H b = some (.lst xs) ∧ DdAll K F xs row
  | _, _, _, _, .nil, e => by simp at e
  | _, _, 0, _, .cons xs h1 h2 _, e => by simp at e; subst e; exact ⟨_, xs, rfl, h1, h2⟩
  | _, _, j + 1, _, .cons _ _ _ h, e => by
    obtain ⟨b, xs, a1, a2, a3⟩ := Rws.get (j := j) h (by simpa using e)
    exact ⟨b, xs, by simpa using a1, a2, a3⟩
theorem Rws.set {F : Hp} : ∀ {bs : List Addr} {rows : List (List Dt)} {j : Nat} {b : Addr} {xs : List V} {row : List Dt}, bs.Nodup → Rws K F H bs rows → bs[j]? = some b → DdAll K F xs row → Rws K F (upd H b (.lst xs)) bs (rows.set j row)
  | _, _, _, _, _, _, _, .nil, e, _ => by simp at e
  | b0 :: bs, _, 0, b, xs, row, nd, .cons ys h1 h2 h3, e, hd => by
    simp at e
    subst e
    have ni := (List.nodup_cons.mp nd).1
    refine .cons xs upd_same hd ?_
    have keep : ∀ {bs : List Addr} {rows : List (List Dt)}, b0 ∉ bs → Rws K F H bs rows → Rws K F (upd H b0 (.lst xs)) bs rows := fun {bs rows} ni r => by
      induction r with
      | nil => exact .nil
      | cons zs g1 g2 g3 ih =>
        have ne := List.ne_of_not_mem_cons ni
        exact .cons zs ((upd_ne (Ne.symm ne)).trans g1) g2 (ih fun z => ni (List.mem_cons_of_mem _ z))
    exact keep ni h3
  | b0 :: bs, _, j + 1, b, xs, row, nd, .cons ys h1 h2 h3, e, hd => by
    have e : bs[j]? = some b := by simpa using e
    have ni := (List.nodup_cons.mp nd).1
    have ne : b0 ≠ b := fun z => ni (by rw [z]; exact List.mem_of_getElem? e)
    exact .cons ys ((upd_ne ne).trans h1) h2 (Rws.set (List.nodup_cons.mp nd).2 h3 e hd)
theorem Sat.mt (S : Sat K W F H σ δ pd) {rows : List (List Dt)} (e : δ[i]? = some (.mt rows)) : ∃ p bs, σ[i]? = some (some (.ref p)) ∧ H p = some (.lst (bs.map .ref)) ∧ Rws K F H bs rows ∧
    ∀ j b row' xs, bs[j]? = some b → DdAll K F xs row' → Sat K W F (upd H b (.lst xs)) σ (δ.set i (.mt (rows.set j row'))) pd := by
  obtain ⟨ad, S⟩ := S
  have hi : i < δ.length := (List.getElem?_eq_some_iff.mp e).1
  obtain ⟨v, e1, o⟩ := S.slot e (by intro z; cases z)
  obtain ⟨p, bs, a1, a2, a3, a4, a5⟩ := o
  cases a1
  refine ⟨p, bs, e1, a3, a4, fun j b row' xs eb hd => ?_⟩
  have nd := S.nod (.inl i)
  rw [a2] at nd
  have hb : b ∈ bs := List.mem_of_getElem? eb
  have nbp : p ≠ b := fun z => (List.nodup_cons.mp nd).1 (by rw [z]; exact hb)
  have c1 : cell σ (δ.set i (.mt (rows.set j row'))) pd (.inl i) = (some (.ref p), .mt (rows.set j row')) := by
    show ((σ[i]?).getD none, ((δ.set i (.mt (rows.set j row')))[i]?).getD .un) = _
    rw [List.getElem?_set_self hi, e1]; rfl
  have cn : ∀ x, x ≠ .inl i → cell σ (δ.set i (.mt (rows.set j row'))) pd x = cell σ δ pd x := fun x hx => by
    cases x with
    | inl m =>
      have hm : m ≠ i := fun z => hx (by rw [z])
      show ((σ[m]?).getD none, ((δ.set i (.mt (rows.set j row')))[m]?).getD .un) = ((σ[m]?).getD none, (δ[m]?).getD .un)
      rw [List.getElem?_set_ne (Ne.symm hm)]
    | inr k => rfl
  refine S.change (.inl i) (p :: bs) (by rw [List.length_set]; exact S.len) (fun x hx => .inl (cn x hx)) ?_ (fun x hx _ a ha => ?_) (Same.refl _) nd ?_
  · rw [c1]
    exact ⟨p, bs, rfl, rfl, (upd_ne nbp).trans a3, a4.set (List.nodup_cons.mp nd).2 eb hd, a5⟩
  · have nm : a ∉ p :: bs := fun z => hx (S.dis x (.inl i) a ha (by rw [a2]; exact z))
    exact ⟨nm, upd_ne fun z => nm (by rw [z]; exact List.mem_cons_of_mem _ hb)⟩
  · refine (S.wk.put (p := b) ⟨.inl i, by rw [a2]; exact List.mem_cons_of_mem _ hb⟩).mono fun a ha => ?_
    rcases ha with z | ⟨x, _, _, z⟩
    · exact ⟨.inl i, by rw [a2]; exact z⟩
    · exact ⟨x, z⟩
theorem atI_refs {bs : List Addr} {j : Nat} {a : Int} {b : Addr} (e : ixN bs.length a = some j) (eb : bs[j]? = some b) : atI (bs.map V.ref) a = some (.ref b) := by
  unfold atI
  rw [List.length_map, e]
  show (bs.map V.ref)[j]? = _
  rw [List.getElem?_map, eb]; rfl
/-- m[a][b] -/
theorem ev_ix2 {rows : List (List Dt)} {a b : Int} {row : List Dt} {d : Dt} (hm : δ[i]? = some (.mt rows)) (h1 : Ep K ta δ (.int a)) (h2 : Ep K tb δ (.int b)) (e1 : atI rows a = some row) (e2 : atI row b = some d) (p : P (im d) δ) :
    Ev K (tOp (oIx K) (tOp (oIx K) (tVar i) ta) tb) δ P := fun W F H σ pd S Q q => by
  obtain ⟨m, bs, x1, x2, x3, _⟩ := S.mt hm
  refine ⟨.ref m, x1, h1 W F H σ pd S _ fun v1 d1 => ?_⟩
  cases d1
  unfold atI at e1
  cases ej : ixN rows.length a with
  | none => rw [ej] at e1; cases e1
  | some j =>
    rw [ej] at e1
    obtain ⟨c, xs, y1, y2, y3⟩ := x3.get e1
    refine .inl (.inl ⟨m, _, a, .ref c, rfl, rfl, SqL.of x2, atI_refs (by rw [x3.len]; exact ej) y1, ?_⟩)
    refine h2 W F H σ pd S _ fun v2 d2 => ?_
    cases d2
    obtain ⟨v, z1, z2⟩ := y3.at e2
    exact .inl (.inl ⟨c, xs, b, v, rfl, rfl, SqL.of y2, z1, q F H _ (im d) δ p trivial (S.pushIm z2)⟩)
/-- m[a][b] = e -/
theorem es_mset (h : Ev K te δ fun r δ1 => ∃ (e : Dt) (rows : List (List Dt)) (a b : Int) (j1 j2 : Nat) (row : List Dt), r.fd = some e ∧ δ1[i]? = some (.mt rows) ∧ Ep K ta δ1 (.int a) ∧ Ep K tb δ1 (.int b) ∧ ixN rows.length a = some j1 ∧ rows[j1]? = some row ∧ ixN row.length b = some j2 ∧
    N.nx (δ1.set i (.mt (rows.set j1 (row.set j2 e))))) : Es K (tAsg te (gSub (tOp (oIx K) (tVar i) ta) tb rSetL)) δ N := fun W F H σ S D D1 => by
  refine h W F H σ [] S _ fun F1 H1 v r δ1 h1 ok S1 => ?_
  obtain ⟨e, rows, a, b, j1, j2, row, hf, hm, p1, p2, e1, e2, e3, n⟩ := h1
  cases r with
  | bo j => cases hf
  | sl s0 =>
    obtain ⟨F2, _, S2⟩ := S1.frzPd (k := 0) (v := v) (s := s0) (d := e) rfl hf
    have S2 : Sat K W F2 H1 σ δ1 [(v, Sl.im e)] := S2
    have he : Dd K F2 v e := S2.popIm (k := 0) rfl
    have S3 : Sat K W F2 H1 σ δ1 [] := S2.drop (pd := [])
    obtain ⟨m, bs, x1, x2, x3, x4⟩ := S3.mt hm
    refine ⟨.ref m, x1, p1 W F2 H1 σ [] S3 _ fun v1 d1 => ?_⟩
    cases d1
    obtain ⟨c, xs, y1, y2, y3⟩ := x3.get e2
    refine .inl (.inl ⟨m, _, a, .ref c, rfl, rfl, SqL.of x2, atI_refs (by rw [x3.len]; exact e1) y1, ?_⟩)
    refine p2 W F2 H1 σ [] S3 _ fun v2 d2 => ?_
    cases d2
    refine ⟨c, xs, b, j2, rfl, rfl, y2, by rw [y3.length]; exact e3, ?_⟩
    exact D1.1 F2 _ σ _ n (x4 j1 c _ _ y1 (y3.set j2 he))
/-! ### targets -/
theorem eg_sqT {gs : TGs} {n : Nat} {ds : List Dt} {js : List Nat} {PG' : List Sl → Prop} (hn : ds.length = n) (h : Egs K gs ds δ js PG') : Eg K (gSq K n gs) (.tup ds) δ js PG' := fun W F H σ pd v S hd Q q =>
  .inl (eg_tup hn h W F H σ pd v S hd Q q)
theorem eg_sqL {gs : TGs} {n : Nat} {ds : List Dt} {js : List Nat} {PG' : List Sl → Prop} (hn : ds.length = n) (h : Egs K gs ds δ js PG') : Eg K (gSq K n gs) (.lst ds) δ js PG' := fun W F H σ pd v S hd Q q => by
  cases hd with
  | lst h1 h2 => exact .inr ⟨_, _, rfl, SqL.of (S.FH _ _ h1), by rw [h2.length]; exact hn, h W F H σ pd _ S h2 Q q⟩
/-- a target that takes the value apart -/
theorem es_asgG {g : TG} (h : Ev K te δ fun r δ' => ∃ d js, r.fd = some d ∧ Eg K g d δ' js N.nx) : Es K (tAsg te g) δ N := fun W F H σ S D D1 => by
  refine h W F H σ [] S _ fun F1 H1 v r δ1 h1 ok S1 => ?_
  obtain ⟨d, js, hf, h1⟩ := h1
  cases r with
  | bo j => cases hf
  | sl s0 =>
    obtain ⟨F2, _, S2⟩ := S1.frzPd (k := 0) (v := v) (s := s0) (d := d) rfl hf
    have S2 : Sat K W F2 H1 σ δ1 [(v, Sl.im d)] := S2
    have hd : Dd K F2 v d := S2.popIm (k := 0) rfl
    exact h1 W F2 H1 σ [] v (S2.drop (pd := [])) hd _ fun σ' δ' p _ _ S' => D1.1 F2 H1 σ' δ' p S'
/-- anything may stand where nothing is told -/
theorem Sat.junk (S : Sat K W F H σ δ pd) {p : Addr} {o : HO} (hp : H p = none) : Sat K W F (upd H p o) σ δ pd := by
  obtain ⟨ad, S⟩ := S
  have ce : cell σ δ pd (.inr pd.length) = (none, .un) := cell_end
  refine S.change (.inr pd.length) [] S.len (fun x hx => .inl rfl) (by rw [ce]; exact rfl) (fun x _ _ a ha => ⟨by simp, upd_ne (S.neq hp x a ha)⟩) (Same.refl _) List.nodup_nil ?_
  refine (S.wk.new (ow' := fun a => (∃ x, a ∈ ad x) ∨ a = p) hp fun a z => z).mono fun a ha => ?_
  rcases ha with z | ⟨x, _, _, z⟩
  · cases z
  · exact .inl ⟨x, z⟩
/-- a, b, c, d = e1, e2, e3, e4 -/
theorem es_par4 {i j l m : Nat} (h : Ea K t δ fun rs δ1 => ∃ s1 s2 s3 s4, rs = [.sl s1, .sl s2, .sl s3, .sl s4] ∧ i < δ1.length ∧ j < δ1.length ∧ l < δ1.length ∧ m < δ1.length ∧ N.nx ((((δ1.set i s1).set j s2).set l s3).set m s4)) :
    Es K (tAsg (tTup t) (gSq K 4 (gCons (gName i) (gCons (gName j) (gCons (gName l) (gCons (gName m) gNil)))))) δ N := fun W F H σ S D D1 => by
  refine h W F H σ [] S _ fun F1 H1 vs rs δ1 h1 oks S1 => ?_
  obtain ⟨s1, s2, s3, s4, rfl, hi, hj, hl', hm, n⟩ := h1
  have hl := oks.length
  match vs, hl, S1 with
  | [x, y, z, u], hl, S1 =>
    refine ⟨by show 4 ≤ sizeLine; decide, fun p hp => .inl ⟨p, [x, y, z, u], rfl, SqT.of upd_same, rfl, ?_⟩⟩
    refine ⟨x, _, rfl, y, _, rfl, z, _, rfl, u, _, rfl, rfl, D1.1 F1 _ _ _ n ?_⟩
    have S2 := S1.junk (o := .tup [x, y, z, u]) hp
    have A := S2.assignAt (k := 0) (v := x) (s := s1) (i := i) rfl hi
    have B := A.assignAt (k := 1) (v := y) (s := s2) (i := j) rfl (by rw [List.length_set]; exact hj)
    have C := B.assignAt (k := 2) (v := z) (s := s3) (i := l) rfl (by rw [List.length_set, List.length_set]; exact hl')
    have E := C.assignAt (k := 3) (v := u) (s := s4) (i := m) rfl (by rw [List.length_set, List.length_set, List.length_set]; exact hm)
    exact E.drop (pd := [])
/-! ### enumerate of a tuple -/
def enD (k : Nat) : List Dt → List Dt
  | [] => []
  | d :: ds => .tup [.int k, d] :: enD (k + 1) ds
theorem enD_len : ∀ {ds : List Dt} {k : Nat}, (enD k ds).length = ds.length
  | [], _ => rfl
  | _ :: ds, k => congrArg Nat.succ (enD_len (ds := ds))
theorem enD_get : ∀ {ds : List Dt} {k i : Nat}, (enD k ds)[i]? = (ds[i]?).map fun d => .tup [.int ((k + i : Nat) : Int), d]
  | [], _, _ => by simp [enD]
  | d :: ds, k, 0 => by simp [enD]
  | d :: ds, k, i + 1 => by
    have := enD_get (ds := ds) (k := k + 1) (i := i)
    simp only [enD, List.getElem?_cons_succ, this]
    congr 2
    funext d
    have : k + 1 + i = k + (i + 1) := by omega
    rw [this]
theorem walkET {F : Hp} {a : Addr} {xs : List V} {ds : List Dt} (h : SqT K F a xs) (hd : DdAll K F xs ds) : WalkD K F (IteT K a) (enD 0 ds) := by
  have hl := hd.length
  have w : Walk (IteT K a) xs.length (fun H => SqT K H a xs) (fun i H v H' => ∃ T x, v = .ref T ∧ H T = none ∧ H' = upd H T (.tup [.int (i : Nat), x]) ∧ xs[i]? = some x) :=
    ⟨fun i H hi hs => ⟨xs, xs[i], hs, List.getElem?_eq_getElem hi⟩, fun H hs => ⟨xs, hs, Nat.le_refl _⟩,
      fun i H v H' hi hs ⟨T, y, e1, e2, e3, e4⟩ => ⟨T, y, e1, e2, e3, e4 xs hs⟩⟩
  unfold WalkD
  rw [enD_len, ← hl]
  refine w.mono (fun H s => sqT_mono s h) fun i H x H' _ _ y => ?_
  obtain ⟨T, u, rfl, e2, rfl, e4⟩ := y
  obtain ⟨d, g1, g2⟩ := hd.getV e4
  refine ⟨.tup [.int (i : Nat), d], ?_, .inr ⟨T, _, _, rfl, rfl, e2, rfl, .cons (.int _) (.cons g2 .nil)⟩⟩
  rw [enD_get, g1, Nat.zero_add]; rfl
theorem ei_enumT {PI' : List Dt → List Sl → Prop} (h : Ea K t δ fun rs δ' => ∃ ds, rs = [im (.tup ds)] ∧ PI' (enD 0 ds) δ') : Ei K (iEnumT K t) δ PI' := fun W F H σ pd S R q => by
  refine h W F H σ pd S _ fun F1 H1 vs rs δ1 h1 oks S1 => ?_
  obtain ⟨ds, rfl, p⟩ := h1
  have D := Sat.args (ds := [.tup ds]) (pd := pd) oks S1
  cases D with
  | cons d1 d2 =>
    cases d2
    cases d1 with
    | tup z1 z2 => exact ⟨_, _, rfl, sqT_mono S1.FH z1, q F1 H1 _ _ δ1 p S1.drop (walkET z1 z2)⟩
end
end Ek

/-! Ek13: comprehensions of dicts and of rows; dict(pairs). -/
namespace Ek
open PySem PySem.Spec PyProof.Rows L2

section
variable {J : It} {n : Nat} {G : Hp → Prop} {Y : Nat → Hp → V → Hp → Prop}
theorem dc_it (w : Walk J n G Y) {g : TG} {tt : TT} {tk tv : TE} {vs : List Nat} {σ : L2.St} {H1 : Hp} {D : Addr} {Qd : Hp → Prop} (Pv : Nat → Hp → Prop) (h0 : Pv 0 (upd H1 D (.dK []))) (hG : ∀ i H, i ≤ n → Pv i H → G H)
    (hs : ∀ i x H H', i < n → Pv i H → Y i H x H' → g x (wipe σ vs) H' fun σ2 H2 => wipe σ2 vs = wipe σ vs ∧ tt σ2 H2 fun b H3 =>
      if b = true then tk σ2 H3 fun y H4 => tv σ2 H4 fun z H5 => ∃ kvs k, y = kV k ∧ H5 D = some (.dK kvs) ∧ kvs.length < sizeLine ∧ Pv (i + 1) (upd H5 D (.dK (putK kvs k z))) else Pv (i + 1) H3) (hd : ∀ H, Pv n H → Qd H) :
    ∃ W : Nat → Nat → Hp → Prop, (∃ m, W 0 m (upd H1 D (.dK []))) ∧ ∀ i m H, W i m H →
      (J.stop i H ∧ Qd H) ∨ (J.go i H ∧ ∃ Nx : Hp → Prop, (∀ H', Nx H' → ∃ m', m' < m ∧ W (i + 1) m' H') ∧ ∀ x H', J.yld i H x H' → g x (wipe σ vs) H' fun σ2 H2 => wipe σ2 vs = wipe σ vs ∧ tt σ2 H2 fun b H3 =>
        if b = true then tk σ2 H3 fun y H4 => tv σ2 H4 fun z H5 => ∃ kvs k, y = kV k ∧ H5 D = some (.dK kvs) ∧ kvs.length < sizeLine ∧ Nx (upd H5 D (.dK (putK kvs k z))) else Nx H3) := by
  refine ⟨fun i m H => m = n - i ∧ i ≤ n ∧ Pv i H, ⟨n, by simp, Nat.zero_le _, h0⟩, ?_⟩
  rintro i m H ⟨rfl, hi, p⟩
  have q := hG i H hi p
  by_cases hlt : i < n
  · refine .inr ⟨w.goes i H hlt q, Pv (i + 1), fun H' p' => ⟨n - (i + 1), by omega, rfl, hlt, p'⟩, fun x H' y => hs i x H H' hlt p (w.yields i H x H' hlt q y)⟩
  · have e : i = n := by omega
    subst e
    exact .inl ⟨w.stops H q, hd H p⟩
end
section
variable {K : PySem.W.Frag} {W : Wd} {F H F' H' : Hp} {σ σ' : L2.St} {δ δ' : List Sl} {pd pd' : List (V × Sl)} {v : V} {s : Sl} {P : Rs → List Sl → Prop} {r1 r2 : Rs} {te ta tb : TE} {t : TA} {N : Nd} {i : Nat}
theorem valV_no {k : Key} : ∀ {ks : List Key} {xs : List V}, k ∉ ks → valV (ks.zip xs) k = none
  | [], _, _ => rfl
  | _ :: _, [], _ => rfl
  | k0 :: ks, x :: xs, h => by
    have e : ¬ k0 = k := fun z => h (by rw [z]; exact List.mem_cons_self ..)
    have e1 : valV ((k0 :: ks).zip (x :: xs)) k = valV (ks.zip xs) k := by simp [valV, e]
    rw [e1]
    exact valV_no fun z => h (List.mem_cons_of_mem _ z)
/-- a new frozen thing -/
theorem Sat.newIm (S : Sat K W F H σ δ pd) {p : Addr} {o : HO} {d : Dt} (hp : H p = none) (hd : Dd K (upd F p o) (.ref p) d) : Sat K W (upd F p o) (upd H p o) σ δ (pd ++ [(.ref p, .im d)]) ∧ Same F (upd F p o) := by
  have hF : F p = none := by
    obtain ⟨ad, hA⟩ := S
    exact (hA.wk.fresh hp).2.1
  refine ⟨S.push (as0 := []) ⟨rfl, _, rfl, hd⟩ (same_upd hF) List.nodup_nil fun ad hA => ?_, same_upd hF⟩
  refine ⟨fun x a ha => ⟨by simp, upd_ne (hA.neq hp x a ha)⟩, ?_⟩
  exact (hA.wk.newF hp fun ⟨x, hx⟩ => hA.neq hp x p hx rfl).mono fun a ha => by
    rcases ha with z | z
    · cases z
    · exact z
theorem upd_comm {a b : Addr} {x y : HO} (h : a ≠ b) : upd (upd H a x) b y = upd (upd H b y) a x := by
  funext c
  by_cases ha : c = a
  · subst ha
    rw [upd_ne h, upd_same, upd_same]
  · by_cases hb : c = b
    · subst hb
      rw [upd_same, upd_ne ha, upd_same]
    · rw [upd_ne hb, upd_ne ha, upd_ne ha, upd_ne hb]
theorem upd_twice {a : Addr} {x y : HO} : upd (upd H a x) a y = upd H a y := by
  funext c
  by_cases ha : c = a
  · subst ha
    rw [upd_same, upd_same]
  · rw [upd_ne ha, upd_ne ha, upd_ne ha]
/-- {k: v for .. in xs}, k and v plain readings -/
theorem ev_dc {wi : TI} {g : TG} {tk tv : TE} {vs : List Nat} (h : Ei K wi δ fun ds δ1 => (∀ j ∈ vs, (δ1[j]?).getD .un = .un) ∧ ∃ (ks : List Key) (es : List Dt) (js : List Nat), (∀ j ∈ js, j ∈ vs) ∧ ks.length = ds.length ∧ es.length = ds.length ∧ ds.length < sizeLine ∧ ks.Nodup ∧
    (∀ (i : Nat) (d : Dt), ds[i]? = some d → Eg K g d δ1 js fun δ2 => ∃ kd k e, ks[i]? = some k ∧ es[i]? = some e ∧ kd.key = some k ∧ Ep K tk δ2 kd ∧ Ep K tv δ2 e) ∧ P (im (.dk ks es)) δ1) : Ev K (tDc wi g tYes tk tv vs) δ P := fun W F H σ pd S Q q => by
  refine h W F H σ pd S _ fun F1 H1 J ds δ1 h1 S1 w D hD => ?_
  obtain ⟨hu, ks, es, js, hj, lk, le, lz, nd, hs, p⟩ := h1
  have un0 : ∀ i, (δ1[i]?).getD .un = .un ∨ i ∉ vs := fun i => by
    by_cases hi : i ∈ vs
    · exact .inl (hu i hi)
    · exact .inr hi
  have base : Sat K W F1 H1 (wipe σ vs) δ1 pd := S1.other (wipe_length σ vs) rfl fun i => by
    rcases un0 i with z | z
    · exact .inl z
    · exact .inr ⟨rfl, wipe_out z⟩
  refine dc_it w (fun i H' => ∃ F' Hx xs, Same F1 F' ∧ H' = upd Hx D (.dK ((ks.take i).zip xs)) ∧ Hx D = none ∧ Sat K W F' Hx (wipe σ vs) δ1 pd ∧ DdAll K F' xs (es.take i))
    ⟨F1, H1, [], Same.refl _, rfl, hD, base, .nil⟩ (fun i H' _ ⟨F', Hx, xs, s, e, hx, S', _⟩ => ?_) (fun i x Ha Hb hi ⟨F', Hx, xs, s, e, hx, S', hd⟩ y => ?_) fun H' ⟨F', Hx, xs, s, e, hx, S', hd⟩ => ?_
  · subst e
    exact s.trans (S'.FH.trans (same_upd hx))
  · have key : ∃ d F2 Hy, ds[i]? = some d ∧ Same F' F2 ∧ Hb = upd Hy D (.dK ((ks.take i).zip xs)) ∧ Hy D = none ∧ Sat K W F2 Hy (wipe σ vs) δ1 pd ∧ Dd K F2 x d := by
      subst e
      obtain ⟨d, ed, ⟨rfl, hdd⟩ | ⟨T, ys, es', rfl, rfl, hT, rfl, hys⟩⟩ := y
      · exact ⟨d, F', Hx, ed, Same.refl _, rfl, hx, S', hdd.mono s⟩
      · have nT : T ≠ D := fun z => by subst z; rw [upd_same] at hT; cases hT
        have hT' : Hx T = none := by rw [upd_ne nT] at hT; exact hT
        obtain ⟨S2, s2⟩ := S'.newT hT' (hys.mono s)
        exact ⟨_, _, upd Hx T (.tup ys), ed, s2, upd_comm (Ne.symm nT), by rw [upd_ne (Ne.symm nT)]; exact hx, S2.drop, S2.popIm (k := pd.length) (by simp)⟩
    obtain ⟨d, F2, Hy, ed, s2, rfl, hy, S2, hdd⟩ := key
    have SJ := S2.junk (o := .dK ((ks.take i).zip xs)) hy
    refine hs i d ed W F2 _ (wipe σ vs) pd x SJ hdd _ fun σ2 δ2 p2 l2 k2 S3 => ?_
    have ew : wipe σ2 vs = wipe σ vs := (wipe_eq vs l2 fun j hj2 => k2 j fun z => hj2 (hj j z)).trans (wipe_wipe vs)
    refine ⟨ew, ?_⟩
    obtain ⟨kd, k, e, ek, ee, ekey, pk, pv⟩ := p2
    unfold tYes
    dsimp only
    rw [if_pos rfl]
    refine (pk W F2 _ σ2 pd S3 _ fun y d1 => pv W F2 _ σ2 pd S3 _ fun z d2 => ?_)
    have hl1 : xs.length = i := by
      rw [hd.length, List.length_take]
      omega
    have hl2 : (ks.take i).length = i := by rw [List.length_take]; omega
    have hnew : valV ((ks.take i).zip xs) k = none := valV_no fun hm => by
      obtain ⟨m, hm1, hm2⟩ := List.mem_iff_getElem.mp hm
      rw [List.getElem_take] at hm2
      have hki := (List.getElem?_eq_some_iff.mp ek)
      obtain ⟨hki1, hki2⟩ := hki
      rw [List.length_take] at hm1
      have := (List.getElem_inj nd).mp (hm2.trans hki2.symm)
      omega
    refine ⟨(ks.take i).zip xs, k, d1.key ekey, upd_same, by rw [List.length_zip]; omega, ?_⟩
    refine ⟨F2, Hy, xs ++ [z], s.trans s2, ?_, hy, S2, ?_⟩
    · rw [upd_twice, putK_new z hnew]
      congr 2
      rw [List.take_add_one, ek, Option.toList_some, List.zip_append (by rw [hl1, hl2])]
      rfl
    · rw [List.take_add_one, ee, Option.toList_some]
      exact (hd.mono s2).snoc d2
  · subst e
    rw [List.take_of_length_le (by omega)] at hd
    rw [List.take_of_length_le (by omega)]
    have hF : F' D = none := S'.FH.free hx
    obtain ⟨S2, s2⟩ := S'.newIm (o := .dK (ks.zip xs)) (d := .dk ks es) hx (.dk upd_same (hd.mono (same_upd hF)))
    refine q (upd F' D (.dK (ks.zip xs))) _ (.ref D) (im (.dk ks es)) δ1 p trivial ?_
    refine S2.other (wipe_length σ vs).symm rfl fun i => ?_
    rcases un0 i with z | z
    · exact .inl z
    · exact .inr ⟨rfl, (wipe_out z).symm⟩
/-! ### dict(pairs) -/
def kd : Key → Dt
  | .inl i => .int i
  | .inr z => .str z
theorem mergeK_new : ∀ {more kvs : List (Key × V)}, (more.map (·.1)).Nodup → (∀ p ∈ more, valV kvs p.1 = none) → mergeK kvs more = kvs ++ more
  | [], kvs, _, _ => by simp [mergeK]
  | p :: more, kvs, nd, h => by
    have nd' := List.nodup_cons.mp nd
    show mergeK (putK kvs p.1 p.2) more = _
    rw [putK_new p.2 (h p (List.mem_cons_self ..)), mergeK_new nd'.2 fun q hq => ?_, List.append_assoc]
    · rfl
    · have ne : ¬ p.1 = q.1 := fun z => nd'.1 (by show p.1 ∈ _; rw [z]; exact List.mem_map_of_mem hq)
      have h0 := h q (List.mem_cons_of_mem _ hq)
      unfold valV at h0 ⊢
      rw [List.find?_append]
      simp only [Option.map_eq_none_iff] at h0
      rw [h0]
      simp [ne]
def rDictP (K : PySem.W.Frag) : List V → Hp → VK → Prop := fun xs H Q => ∃ (a : Addr) (ps : List Addr) (kvs : List (Key × V)), xs = [.ref a] ∧ SqL K H a (ps.map V.ref) ∧ Paired (fun p kv => SqT K H p [kV kv.1, kv.2]) ps kvs ∧
    ∀ p, H p = none → Q (.ref p) (upd H p (.dK (mergeK [] kvs)))
theorem call_dict' {X : Cx} (hc : X.calm = true) : CallR X (.type "dict") (rDictP X.K) := call_dictP hc
theorem pairs_dd (sF : Same F H) : ∀ {xs : List V} {ks : List Key} {es : List Dt}, ks.length = es.length → DdAll K F xs ((ks.zip es).map fun p => Dt.tup [kd p.1, p.2]) →
    ∃ (ps : List Addr) (vs : List V), xs = ps.map V.ref ∧ Paired (fun p kv => SqT K H p [kV kv.1, kv.2]) ps (ks.zip vs) ∧ DdAll K F vs es
  | _, [], [], _, .nil => ⟨[], [], rfl, .nil, .nil⟩
  | _, k :: ks, e :: es, hl, .cons h1 h2 => by
    obtain ⟨ps, vs, a1, a2, a3⟩ := pairs_dd sF (by simpa using hl) h2
    cases h1 with
    | tup g1 g2 =>
      cases g2 with
      | cons g2 g3 =>
        cases g3 with
        | cons g3 g4 =>
          cases g4
          rename_i a v1 v2
          have ev : v1 = kV k := by
            refine g2.key ?_
            cases k <;> rfl
          subst ev
          exact ⟨a :: ps, v2 :: vs, by rw [a1]; rfl, .cons (sqT_mono sF g1) a2, .cons g3 a3⟩
theorem ap_dictP {ks : List Key} {es : List Dt} (hl : ks.length = es.length) (nd : ks.Nodup) (hc : r1.lqd δ = some ((ks.zip es).map fun p => Dt.tup [kd p.1, p.2])) (p : P (im (.dk ks es)) δ) : ApC K (rDictP K) [r1] δ P := apC1 fun W F H σ pd v S ok Q q => by
  obtain ⟨a, xs, rfl, hs, hd⟩ := S.lqd one0 ok hc
  obtain ⟨ps, vs, rfl, hp, hv⟩ := pairs_dd S.FH hl hd
  refine ⟨a, ps, ks.zip vs, rfl, hs, hp, fun b hb => ?_⟩
  have lv : ks.length = vs.length := hl.trans hv.length.symm
  have em : mergeK [] (ks.zip vs) = ks.zip vs := by
    rw [mergeK_new (by rw [List.map_fst_zip (by omega)]; exact nd) fun _ _ => rfl]
    rfl
  rw [em]
  have hF : F b = none := S.FH.free hb
  exact q _ _ _ (im _) δ p trivial (S.drop.newIm hb (.dk upd_same (hv.mono (same_upd hF)))).1
/-! ### rows of one's own -/
theorem Sat.rowIn {p b : Addr} {rows : List (List Dt)} {row : List Dt} (S : Sat K W F H σ δ (pd ++ [(.ref p, .mt rows), (.ref b, .ls row)])) : ∃ bs : List Addr, H p = some (.lst (bs.map .ref)) ∧ bs.length = rows.length ∧ Sat K W F (upd H p (.lst (bs.map .ref ++ [.ref b]))) σ δ (pd ++ [(.ref p, .mt (rows ++ [row]))]) := by
  obtain ⟨ad, S⟩ := S
  have c1 : cell σ δ (pd ++ [(.ref p, .mt rows), (.ref b, .ls row)]) (.inr pd.length) = (some (.ref p), .mt rows) := cell_inr two1
  have c2 : cell σ δ (pd ++ [(.ref p, .mt rows), (.ref b, .ls row)]) (.inr (pd.length + 1)) = (some (.ref b), .ls row) := cell_inr two2
  have o1 := S.own (.inr pd.length)
  have o2 := S.own (.inr (pd.length + 1))
  rw [c1] at o1
  rw [c2] at o2
  obtain ⟨p', bs, a1, a2, a3, a4, a5⟩ := o1
  obtain ⟨b', xs, b1, b2, b3, b4, b5⟩ := o2
  cases a1; cases b1
  have hb1 : b ∈ ad (.inr (pd.length + 1)) := by rw [b2]; simp
  have nb : b ∉ p :: bs := fun z => by
    have := S.dis (.inr pd.length) (.inr (pd.length + 1)) b (by rw [a2]; exact z) hb1
    have := Sum.inr.inj this
    omega
  have nd := S.nod (.inr pd.length)
  rw [a2] at nd
  have d1 : cell σ δ (pd ++ [(.ref p, .mt (rows ++ [row]))]) (.inr pd.length) = (some (.ref p), .mt (rows ++ [row])) := cell_inr (by simp)
  have keep : ∀ {bs : List Addr} {rows : List (List Dt)} {u : HO}, p ∉ bs → Rws K F H bs rows → Rws K F (upd H p u) bs rows := fun {bs rows u} ni r => by
    induction r with
    | nil => exact .nil
    | cons zs g1 g2 g3 ih =>
      have ne := List.ne_of_not_mem_cons ni
      exact .cons zs ((upd_ne (Ne.symm ne)).trans g1) g2 (ih fun z => ni (List.mem_cons_of_mem _ z))
  have snoc : ∀ {H : Hp} {bs : List Addr} {rows : List (List Dt)}, Rws K F H bs rows → H b = some (.lst xs) → Rws K F H (bs ++ [b]) (rows ++ [row]) := fun {H bs rows} r hb => by
    induction r with
    | nil => exact .cons xs hb b4 .nil
    | cons zs g1 g2 g3 ih => exact .cons zs g1 g2 ih
  refine ⟨bs, a3, a4.len, S.change (.inr pd.length) (p :: (bs ++ [b])) S.len (fun x hx => ?_) ?_ (fun x hx hk a ha => ?_) (Same.refl _) ?_ ?_⟩
  · cases x with
    | inl m => exact .inl rfl
    | inr k =>
      by_cases h1 : k < pd.length
      · left
        show (match (pd ++ [_])[k]? with | some (v, s) => (some v, s) | none => (none, .un)) = (match (pd ++ [_, _])[k]? with | some (v, s) => (some v, s) | none => (none, .un))
        rw [List.getElem?_append_left h1, List.getElem?_append_left h1]
        rfl
      · right
        have h2 : k ≠ pd.length := fun z => hx (by rw [z])
        show (match (pd ++ [_])[k]? with | some (v, s) => (some v, s) | none => (none, .un) : Option V × Sl).2 = .un
        rw [List.getElem?_eq_none (by simp; omega)]
  · rw [d1]
    have nbp : b ≠ p := fun z => nb (by rw [z]; exact List.mem_cons_self ..)
    refine ⟨p, bs ++ [b], rfl, rfl, ?_, snoc (keep (List.nodup_cons.mp nd).1 a4) ((upd_ne nbp).trans b3), fun a ha => ?_⟩
    · rw [upd_same, List.map_append]; rfl
    · rcases List.mem_cons.mp ha with z | z
      · exact a5 a (by rw [z]; exact List.mem_cons_self ..)
      · rcases List.mem_append.mp z with z | z
        · exact a5 a (List.mem_cons_of_mem _ z)
        · rw [show a = b by simpa using z]; exact b5
  · have ne : a ∉ p :: (bs ++ [b]) := fun z => by
      rcases List.mem_cons.mp z with z | z
      · exact hx (S.dis x (.inr pd.length) a ha (by rw [a2, z]; exact List.mem_cons_self ..))
      · rcases List.mem_append.mp z with z | z
        · exact hx (S.dis x (.inr pd.length) a ha (by rw [a2]; exact List.mem_cons_of_mem _ z))
        · have ea : a = b := by simpa using z
          rw [ea] at ha
          have := S.dis x (.inr (pd.length + 1)) b ha hb1
          subst this
          have cun : (cell σ δ (pd ++ [(V.ref p, Sl.mt (rows ++ [row]))]) (.inr (pd.length + 1))) = (none, .un) := by
            show (match (pd ++ [(V.ref p, Sl.mt (rows ++ [row]))])[pd.length + 1]? with | some (v, s) => (some v, s) | none => (none, .un)) = _
            rw [List.getElem?_eq_none (by simp)]
          rw [cun, c2] at hk
          cases hk
    exact ⟨ne, upd_ne fun z => ne (by rw [z]; exact List.mem_cons_self ..)⟩
  · have h1 := List.nodup_cons.mp nd
    refine List.nodup_cons.mpr ⟨fun z => ?_, ?_⟩
    · rcases List.mem_append.mp z with z | z
      · exact h1.1 z
      · have e : p = b := by simpa using z
        exact nb (by rw [e]; exact List.mem_cons_self ..)
    · rw [List.nodup_append]
      refine ⟨h1.2, by simp, fun x hx y hy => ?_⟩
      have : y = b := by simpa using hy
      subst this
      exact fun z => nb (by rw [← z]; exact List.mem_cons_of_mem _ hx)
  · refine (S.wk.put (p := p) ⟨.inr pd.length, by rw [a2]; exact List.mem_cons_self ..⟩).mono fun a ha => ?_
    rcases ha with z | ⟨x, _, _, z⟩
    · rcases List.mem_cons.mp z with z | z
      · exact ⟨.inr pd.length, by rw [a2, z]; exact List.mem_cons_self ..⟩
      · rcases List.mem_append.mp z with z | z
        · exact ⟨.inr pd.length, by rw [a2]; exact List.mem_cons_of_mem _ z⟩
        · exact ⟨.inr (pd.length + 1), by rw [b2]; exact z⟩
    · exact ⟨x, z⟩
theorem Sat.newMt (h : Sat K W F H σ δ pd) {p : Addr} (hp : H p = none) : Sat K W F (upd H p (.lst [])) σ δ (pd ++ [(.ref p, .mt [])]) :=
  have na : ¬ W.A0 p := by
    obtain ⟨ad, hA⟩ := h
    exact (hA.wk.fresh hp).2.2
  h.push (as0 := [p]) ⟨p, [], rfl, rfl, upd_same, .nil, fun a ha => by rw [show a = p by simpa using ha]; exact na⟩ (Same.refl _) (by simp) fun ad hA => ⟨fun x a ha => ⟨by simpa using hA.neq hp x a ha, upd_ne (hA.neq hp x a ha)⟩, hA.wk.new hp fun a ha => by
    rcases ha with z | z
    · exact .inr (by simpa using z)
    · exact .inl z⟩
/-- [a row for x in xs], the rows one's own -/
theorem ev_lcM {wi : TI} {g : TG} {te : TE} {vs : List Nat} (h : Ei K wi δ fun ds δ1 => ∃ (js : List Nat) (f : Nat → List Dt), (∀ j ∈ js, j ∈ vs) ∧ (∀ j ∈ vs, (δ1[j]?).getD .un = .un) ∧ ds.length < sizeLine ∧
    (∀ (i : Nat) (d : Dt), ds[i]? = some d → Eg K g d δ1 js fun δ2 => Ev K te δ2 fun r δ4 => r = .sl (.ls (f i)) ∧ wipeS δ4 vs = δ1) ∧ P (.sl (.mt ((List.range ds.length).map f))) δ1) : Ev K (tLc wi g tYes te vs) δ P := fun W F H σ pd S Q q => by
  refine h W F H σ pd S _ fun F1 H1 J ds δ1 h1 S1 w D hD => ?_
  obtain ⟨js, f, hj, hu, hz, hs, hd⟩ := h1
  have un0 : ∀ i, (δ1[i]?).getD .un = .un ∨ i ∉ vs := fun i => by
    by_cases hi : i ∈ vs
    · exact .inl (hu i hi)
    · exact .inr hi
  have base : Sat K W F1 (upd H1 D (.lst [])) (wipe σ vs) δ1 (pd ++ [(.ref D, .mt [])]) := by
    have A := S1.newMt hD
    refine A.other (wipe_length σ vs) rfl fun i => ?_
    rcases un0 i with z | z
    · exact .inl z
    · exact .inr ⟨rfl, wipe_out z⟩
  refine lc_it w (fun i H' => ∃ F', Same F1 F' ∧ Sat K W F' H' (wipe σ vs) δ1 (pd ++ [(.ref D, .mt ((List.range i).map f))]))
    ⟨F1, Same.refl _, base⟩ (fun i H' _ ⟨F', s, S'⟩ => s.trans S'.FH) (fun i x Ha Hb hi ⟨F', s, S'⟩ y => ?_) fun H' ⟨F', s, S'⟩ => ?_
  · obtain ⟨d, F2, e, s2, S2, hdd⟩ := S'.item s y
    refine hs i d e W F2 Hb (wipe σ vs) _ x S2 hdd _ fun σ2 δ2 p l2 k2 S3 => ?_
    have ew : wipe σ2 vs = wipe σ vs := (wipe_eq vs l2 fun j hj2 => k2 j fun z => hj2 (hj j z)).trans (wipe_wipe vs)
    refine ⟨ew, ?_⟩
    unfold tYes
    dsimp only
    rw [if_pos rfl]
    refine (p (W.re F2) F2 Hb σ2 _ S3.re _ fun F4 H4 v r δ4 h4 ok S5 => ?_)
    obtain ⟨S5, s5⟩ := S3.unre S5
    obtain ⟨rfl, ew4⟩ := h4
    have S5 : Sat K W F4 H4 σ2 δ4 (pd ++ [(.ref D, .mt ((List.range i).map f))] ++ [(v, .ls (f i))]) := S5
    obtain ⟨as, o⟩ := S5.pnd (k := (pd ++ [(V.ref D, Sl.mt ((List.range i).map f))]).length) (v := v) (s := .ls (f i)) (by simp)
    obtain ⟨b, xs, e1, _⟩ := o
    cases e1
    rw [List.append_assoc] at S5
    obtain ⟨bs, x1, x2, x3⟩ := Sat.rowIn S5
    have li : i < sizeLine := Nat.lt_trans hi hz
    refine ⟨bs.map .ref, x1, by rw [List.length_map, x2, List.length_map, List.length_range]; exact li, ?_⟩
    refine ⟨F4, (s.trans s2).trans s5, ?_⟩
    rw [List.range_succ, List.map_append]
    have := x3.wipe vs
    rw [ew4, ew] at this
    exact this
  · refine q F' H' (.ref D) (.sl (.mt _)) δ1 hd trivial ?_
    refine S'.other (wipe_length σ vs).symm rfl fun i => ?_
    rcases un0 i with z | z
    · exact .inl z
    · exact .inr ⟨rfl, (wipe_out z).symm⟩
end
end Ek

/-! Ek14: the rules with the written part named. -/
namespace Ek
open PySem PySem.Spec PyProof.Rows L2 StX
section
variable {X : Cx} {K : PySem.W.Frag}
theorem k_add (h : X.K = K) : OpR X (binaryOp .Add) (oAdd K) := by subst h; exact op_oAdd
theorem k_mul (h : X.K = K) : OpR X (binaryOp .Mult) (oMul K) := by subst h; exact op_oMul
theorem k_eq (h : X.K = K) (hu : X.A.units + 65 < cLine) : OpR X (compareOp .Eq) (oEq K) := by subst h; exact op_oEq (by omega)
theorem k_ne (h : X.K = K) (hu : X.A.units + 65 < cLine) : OpR X (compareOp .NotEq) (oNe K) := by subst h; exact op_oNe (by omega)
theorem k_in (h : X.K = K) (hu : X.A.units + 65 < cLine) : OpR X (compareOp .In) (oIn K) := by subst h; exact op_oIn hu
theorem k_sl (h : X.K = K) : SlR X (oSl K) := by subst h; exact sl_o
theorem k_ix (h : X.K = K) (hu : X.A.units + 65 < cLine) : IxR X (oIx K) := by subst h; exact ix_o (by omega)
theorem k_len (h : X.K = K) : CallR X (.builtin "len") (oLen K) := by subst h; exact call_oLen
theorem k_isi (h : X.K = K) : CallR X (.builtin "isinstance") (rIsi K) := by subst h; exact call_isi
theorem k_all (h : X.K = K) (hc : X.calm = true) : CallR X (.builtin "all") (rAll K) := by subst h; exact cr_all hc
theorem k_any (h : X.K = K) (hc : X.calm = true) : CallR X (.builtin "any") (rAny K) := by subst h; exact cr_any hc
theorem k_sum (h : X.K = K) (hc : X.calm = true) : CallR X (.builtin "sum") (rSum K) := by subst h; exact cr_sum hc
theorem k_repr (h : X.K = K) (hG : X.A.guards = some []) (hu : X.A.units + 65 < cLine) : CallR X (.builtin "repr") (rRepr K) := by subst h; exact call_repr hG (by omega)
theorem k_list (h : X.K = K) : CallR X (.type "list") (rLstOf K) := by subst h; exact call_list'
theorem k_tup (h : X.K = K) : CallR X (.type "tuple") (rTupOf K) := by subst h; exact call_tup'
theorem k_dict (h : X.K = K) (hc : X.calm = true) : CallR X (.type "dict") (rDictP K) := by subst h; exact call_dict' hc
theorem k_ext (h : X.K = K) : MtM X "list.extend" (oExt K) := by subst h; exact mt_oExt
theorem k_rev (h : X.K = K) {e : Expr} {te : TE} {k : Nat} {p1 p2 p3 pos : Pos} (he : PE X e te) : PE X (.Subscript e (.Slice none none (some (.UnaryOp .USub (.Constant (.int 1) k p1) p2)) p3) pos) (tRevA K te) := by subst h; exact pe_revA he
theorem k_iany (h : X.K = K) {tg l : Expr} {tl : TE} (hl : PE X l tl) : PI X tg l (iAny K tl) := by subst h; exact pi_any hl
theorem k_ienum (h : X.K = K) {e : Expr} {ta : TA} {p pos tpos : Pos} {elts : List Expr} {kk : Nat} (hg : Gl X "enumerate") (hm : X.mg "enumerate" = none) (ha : PA X [e] ta) (hs : starEach [e] X.env = [(false, eval e X.env)] := by rfl) :
    PI X (.Tuple elts kk tpos) (.Call (.Name "enumerate" p) [e] [] pos) (iEnumT K ta) := by subst h; exact pi_enumT hg hm ha hs
theorem k_gsq (h : X.K = K) {pos : Pos} {es : List Expr} {k : Nat} {t : TGs} {n : Nat} (hc : X.calm = true) (hp : PGs X es t)
    (hn : (assignEach es X.env).length = n := by rfl) (hst : (assignEach es X.env).findIdx? (·.1) = none := by rfl) : PG X (.Tuple es k pos) (gSq K n t) := by subst h; exact pg_sq hc hp hn hst
theorem k_star (h : X.K = K) {e : Expr} {es : List Expr} {te : TE} {t : TA} {p : Pos} (he : PE X e te) (hr : PA X es t) (hs : starEach (.Starred e p :: es) X.env = (true, eval e X.env) :: starEach es X.env := by rfl) : PA X (.Starred e p :: es) (tStar K te t) := by subst h; exact pa_star he hr hs
theorem k_bm (h : X.K = K) {o e : Expr} {es : List Expr} {to : TE} {t : TA} {name : Str} {apos cpos : Pos} {T id : String} {r : V → List V → Hp → VK → Prop} (pa : PlainAttrs T) (slot : Slot T name id) (hty : typeOf (.builtin id) = pure (.type "method_descriptor")) (hm : MtR X id r) (ho : PE X o to) (ha : PA X (e :: es) t)
    (hbase : attributeBase o name X.env (eval o X.env) = eval o X.env := by rfl)
    (hfew : ((backTo cpos (starEach (e :: es) X.env)).all (fun x => !x.1) && (backToKw cpos (keywordEach [] X.env)).all (fun x => x.1.isSome)
      && decide ((e :: es).length + ([] : List Keyword).length + (if ([] : List Keyword).isEmpty then 0 else 1) < 30)) = true := by rfl)
    (hline : (apos.endLine == cpos.line) = true := by rfl) (hs : starEach (e :: es) X.env = (false, eval e X.env) :: starEach es X.env := by rfl) (hplain : (backTo cpos (starEach es X.env)).any (·.1) = false := by rfl) :
    PE X (.Call (.Attribute o name apos) (e :: es) [] cpos) (tBM K T r to t) := by subst h; exact pe_bm pa slot hty hm ho ha hbase hfew hline hs hplain
theorem k_bm0 (h : X.K = K) {o : Expr} {to : TE} {name : Str} {apos cpos : Pos} {T id : String} {r : V → List V → Hp → VK → Prop} (pa : PlainAttrs T) (slot : Slot T name id) (hty : typeOf (.builtin id) = pure (.type "method_descriptor")) (hm : MtR X id r) (ho : PE X o to)
    (hbase : attributeBase o name X.env (eval o X.env) = eval o X.env := by rfl) (hline : (apos.endLine == cpos.line) = true := by rfl) : PE X (.Call (.Attribute o name apos) [] [] cpos) (tBM0 K T r to) := by subst h; exact pe_bm0 pa slot hty hm ho hbase hline
def rJoin (K : PySem.W.Frag) : V → List V → Hp → VK → Prop := fun x xs H Q => ∃ a p, ∃ ys : List Str, x = .str a ∧ xs = [.ref p] ∧ (SqL K H p (ys.map V.str) ∨ SqT K H p (ys.map V.str)) ∧
      (ys.map (·.length)).sum + ys.length * a.length ≤ 16777216 ∧ Q (.str (Txt.join a ys)) H
theorem k_join (h : X.K = K) {o e : Expr} {to te : TE} {apos pos : Pos} (ho : PE X o to) (he : PE X e te) (hs : starEach [e] X.env = [(false, eval e X.env)] := by rfl) (hbase : attributeBase o "join" X.env (eval o X.env) = eval o X.env := by rfl) (hline : (apos.endLine == pos.line) = true := by rfl) :
    PE X (.Call (.Attribute o "join" apos) [e] [] pos) (tM1 (rJoin K) to te) := by subst h; exact pe_join ho he hs hbase hline
end
end Ek

/-! Ek15: more rules by their shapes; pairs of names of which a comprehension reads. -/
namespace Ek
open PySem PySem.Spec PyProof.Rows L2 StX
section
variable {K : PySem.W.Frag} {W : Wd} {δ : List Sl} {P : Rs → List Sl → Prop} {a b : Int} {N : Nd} {t : TA}
theorem ap_sub (p : P (im (.int (a - b))) δ) : Ap2 K (rI0 fun i j => .int (i - j)) (im (.int a)) (im (.int b)) δ P := ap_S (op_I0 rfl) rfl rfl p
theorem ap_lt (p : P (im (.bl (decide (a < b)))) δ) : Ap2 K (rI0 fun i j => .bl (decide (i < j))) (im (.int a)) (im (.int b)) δ P := ap_S (op_I0 rfl) rfl rfl p
theorem ap_le (p : P (im (.bl (decide (a ≤ b)))) δ) : Ap2 K (rI0 fun i j => .bl (decide (i ≤ j))) (im (.int a)) (im (.int b)) δ P := ap_S (op_I0 rfl) rfl rfl p
theorem ap_gt (p : P (im (.bl (decide (b < a)))) δ) : Ap2 K (rI0 fun i j => .bl (decide (j < i))) (im (.int a)) (im (.int b)) δ P := ap_S (op_I0 rfl) rfl rfl p
theorem ap_ge (p : P (im (.bl (decide (b ≤ a)))) δ) : Ap2 K (rI0 fun i j => .bl (decide (j ≤ i))) (im (.int a)) (im (.int b)) δ P := ap_S (op_I0 rfl) rfl rfl p
theorem ap_mod (h : 0 < b) (p : P (im (.int (a % b))) δ) : Ap2 K (rI (fun _ j => 0 < j) fun i j => .int (i % j)) (im (.int a)) (im (.int b)) δ P := ap_S (op_I h rfl) rfl rfl p
theorem ap_fdiv (h : CDivW a b) (p : P (im (.int (a / b))) δ) : Ap2 K (rI CDivW fun i j => .int (i / j)) (im (.int a)) (im (.int b)) δ P := ap_S (op_I h rfl) rfl rfl p
theorem ap_pow (h : CPowX a b) (p : P (im (.int (a ^ b.toNat))) δ) : Ap2 K (rI CPowX fun i j => .int (i ^ j.toNat)) (im (.int a)) (im (.int b)) δ P := ap_S (op_I h rfl) rfl rfl p
theorem atM {α : Type} {f : α → Dt} {xs : List α} {i : Nat} {x : α} (h : xs[i]? = some x) : atI (xs.map f) (i : Int) = some (f x) := by
  refine atI_nat ?_
  rw [List.getElem?_map, h]; rfl
theorem atN {xs : List Dt} {i : Nat} {j : Int} {x : Dt} (h : xs[i]? = some x) (e : j = (i : Int)) : atI xs j = some x := by
  subst e
  exact atI_nat h
def rMax3 : List V → Hp → VK → Prop := fun xs H Q => ∃ i j k, xs = [.int i, .int j, .int k] ∧ Q (.int (max (max i j) k)) H
theorem call_max3' {X : Cx} (hc : X.calm = true) : CallR X (.builtin "max") rMax3 := by
  intro pins s σ H xs us Q I r h
  obtain ⟨i, j, k, rfl, q⟩ := h
  refine call_max3Nu hc pins s σ H _ us Q I r ⟨.int i, .int j, .int k, .int (max (max i j) k), rfl, ?_, q⟩
  have e2 : ∀ a b : Int, nuMax2 (.int a) (.int b) = some (.int (max a b)) := fun a b => by
    show (some (decide (a < b))).map (fun c => if c = true then V.int b else V.int a) = _
    rw [Option.map_some]
    by_cases h : a < b
    · rw [if_pos (decide_eq_true h)]; congr 2; omega
    · rw [if_neg (by simpa using h)]; congr 2; omega
  show (nuMax2 (.int i) (.int j)).bind _ = _
  rw [e2]
  exact e2 _ _
theorem ap_max3 {i j k : Int} (p : P (im (.int (max (max i j) k))) δ) : ApC K rMax3 [im (.int i), im (.int j), im (.int k)] δ P := fun W F H σ pd vs S oks Q q => by
  have D := Sat.args (ds := [.int i, .int j, .int k]) (pd := pd) oks S
  cases D with
  | cons d1 D => cases D with
    | cons d2 D => cases D with
      | cons d3 D =>
        cases D; cases d1; cases d2; cases d3
        exact ⟨i, j, k, rfl, q F H _ (im _) δ p trivial (S.drop.pushIm (.int _))⟩
theorem ev_cut {te : TE} (d : Dt) (δ1 : List Sl) (h : Ev K te δ fun r δ' => r = im d ∧ δ' = δ1) (p : P (im d) δ1) : Ev K te δ P := h.mono fun r δ' ⟨a, b⟩ => by
  subst a b
  exact p
theorem ev_cut0 {te : TE} (d : Dt) (h : Ev K te δ fun r δ' => r = im d ∧ δ' = δ) (p : P (im d) δ) : Ev K te δ P := ev_cut d δ h p
/-- a < b < c over ints -/
theorem chain_I {g : Int → Int → V} {r1 : Rs} {d : Bool} (h1 : r1 = im (.int a)) (e : g a b = .bl d) : ∀ W F H σ pd v1 v2, Sat K W F H σ δ (pd ++ [(v1, r1.pend), (v2, .im (.int b))]) → RsOk σ v1 r1 → ∀ Q : VK, Q (.bl d) H → rI0 g v1 v2 H Q := fun W F H σ pd v1 v2 S ok Q q => by
  subst h1
  have d1 : Dd K F v1 (.int a) := S.im1
  have d2 : Dd K F v2 (.int b) := S.im2 (r1 := im (.int a))
  cases d1; cases d2
  exact ⟨a, b, rfl, rfl, by rw [e]; exact q⟩
theorem ev_chainI {g g' : Int → Int → V} {ta tb tc : TE} {q : Int → Int → Bool} (hg : ∀ x y, g x y = .bl (q x y))
    (h : Ev K ta δ fun r1 δ1 => Ev K tb δ1 fun r2 δ2 => ∃ a b, r1 = im (.int a) ∧ r2 = im (.int b) ∧ (q a b = true → Ev K tc δ2 fun r4 δ4 => Ap2 K (rI0 g') (im (.int b)) r4 δ4 P) ∧ (q a b = false → P (im (.bl false)) δ2)) : Ev K (tChain (rI0 g) (rI0 g') ta tb tc) δ P :=
  ev_chain (h.mono fun r1 δ1 h1 => h1.mono fun r2 δ2 ⟨a, b, e1, e2, h2, h3⟩ => ⟨.int b, e2, q a b, chain_I e1 (hg a b), h2, h3⟩)
def bk1 (δ : List Sl) : Rs → Sl → List Sl
  | .sl _, _ => δ
  | .bo i, .ln _ ds => δ.set i (((δ[i]?).getD .un).put ds)
  | .bo _, _ => δ
def bks2 : List Sl → List Rs → List Sl → List Sl
  | δ, [], _ => δ
  | δ, _ :: _, [] => δ
  | δ, r :: rs, s :: ss => bks2 (bk1 δ r s) rs ss
theorem bks_eq : ∀ {rs : List Rs} {ss : List Sl} {δ : List Sl}, bks2 δ rs ss = bks δ rs ss
  | [], ss, δ => by cases ss <;> simp only [bks, bks2]
  | _ :: _, [], δ => by simp only [bks, bks2]
  | r :: rs, s :: ss, δ => by
    cases r with
    | sl _ => simp only [bks, bks2, bk1]; exact bks_eq
    | bo i => cases s <;> simp only [bks, bks2, bk1] <;> exact bks_eq
theorem ev_cal2 {A : List Sl → (Sl → List Sl → Prop) → Prop} {E : XK} {ta : TA}
    (h : Ea K ta δ fun rs δ1 => ∃ δa, Ags δ1 0 rs = some δa ∧ ndB (bos rs) = true ∧ A δa fun s δa' => shp 0 rs δa' ∧ P (.sl s) (bks2 δ1 rs δa')) : Ev K (tCal (FD K A) E ta) δ P := by
  refine ev_cal fun W F H σ pd S Q q => h W F H σ pd S Q fun F' H' vs rs δ' h1 => q F' H' vs rs δ' ?_
  obtain ⟨δa, e1, e2, h1⟩ := h1
  refine ⟨δa, e1, e2, ?_⟩
  have e : (fun s δa' => shp 0 rs δa' ∧ P (.sl s) (bks2 δ' rs δa')) = fun s δa' => shp 0 rs δa' ∧ P (.sl s) (bks δ' rs δa') := by
    funext s δa'
    rw [bks_eq]
  rw [← e]
  exact h1
theorem et_yes {PT : Bool → List Sl → Prop} (p : PT true δ) : Et K tYes δ PT := fun W F H σ pd S Q q => q F H true δ p S
def Sl.isUn : Sl → Bool
  | .un => true
  | _ => false
def unB (δ : List Sl) (vs : List Nat) : Bool := vs.all fun j => ((δ[j]?).getD Sl.un).isUn
theorem unB_un {vs : List Nat} (h : unB δ vs = true) : ∀ j ∈ vs, (δ[j]?).getD Sl.un = Sl.un := fun j hj => by
  have := List.all_eq_true.mp h j hj
  cases e : (δ[j]?).getD Sl.un <;> rw [e] at this <;> first | rfl | cases this
def subB (js vs : List Nat) : Bool := js.all fun j => vs.contains j
theorem subB_sub {js vs : List Nat} (h : subB js vs = true) : ∀ j ∈ js, j ∈ vs := fun j hj => by
  have := List.all_eq_true.mp h j hj
  simpa using this
/-- [e for x in xs if t], slots as they were -/
theorem ev_lcF {wi : TI} {g : TG} {tt : TT} {te : TE} {vs : List Nat} (h : Ei K wi δ fun ds δ1 => ∃ (js : List Nat) (b : Nat → Bool) (f : Nat → Dt), subB js vs = true ∧ unB δ1 vs = true ∧ ds.length < sizeLine ∧
    (∀ (i : Nat) (d : Dt), ds[i]? = some d → Eg K g d δ1 js fun δ2 => Et K tt δ2 fun b' δ3 => b' = b i ∧ (b' = false → wipeS δ3 vs = δ1) ∧ (b' = true → Ev K te δ3 fun r δ4 => r.fd = some (f i) ∧ wipeS δ4 vs = δ1)) ∧
    P (.sl (.ls (((List.range ds.length).filter b).map f))) δ1) : Ev K (tLc wi g tt te vs) δ P := by
  refine ev_lc fun W F H σ pd S R q => h W F H σ pd S R fun F' H' J ds δ1 h1 => q F' H' J ds δ1 ?_
  obtain ⟨js, b, f, h1, h2, h3, h4, h5⟩ := h1
  refine ⟨fun i acc δ' => δ' = δ1 ∧ acc = ((List.range i).filter b).map f, js, subB_sub h1, unB_un h2, ⟨rfl, rfl⟩, fun i d acc δ' hd hI => ?_, fun acc δ' hI _ => ?_⟩
  · obtain ⟨rfl, rfl⟩ := hI
    have hi : i < ds.length := (List.getElem?_eq_some_iff.mp hd).1
    refine ⟨?_, ?_⟩
    · rw [List.length_map]
      have := List.length_filter_le b (List.range i)
      rw [List.length_range] at this
      omega
    · intro W2 F2 H2 σ2 pd2 v S2 hv Q2 q2
      refine h4 i d hd W2 F2 H2 σ2 pd2 v S2 hv Q2 fun σ' δ'' p2 => q2 σ' δ'' ?_
      refine p2.mono fun b' δ3 ⟨e1, e2, e3⟩ => ⟨fun hb => (e3 hb).mono fun r δ4 ⟨e4, e5⟩ => ⟨f i, e4, e5, ?_⟩, fun hb => ⟨e2 hb, ?_⟩⟩
      · rw [List.range_succ, List.filter_append, List.map_append]
        rw [e1] at hb
        simp [List.filter_cons, hb]
      · rw [List.range_succ, List.filter_append, List.map_append]
        rw [e1] at hb
        simp [List.filter_cons, hb]
  · obtain ⟨rfl, rfl⟩ := hI
    exact h5
theorem ev_lcN {wi : TI} {g : TG} {te : TE} {vs : List Nat} (h : Ei K wi δ fun ds δ1 => ∃ (js : List Nat) (f : Nat → Dt), subB js vs = true ∧ unB δ1 vs = true ∧ ds.length < sizeLine ∧
    (∀ (i : Nat) (d : Dt), ds[i]? = some d → Eg K g d δ1 js fun δ2 => Ev K te δ2 fun r δ4 => r.fd = some (f i) ∧ wipeS δ4 vs = δ1) ∧
    P (.sl (.ls ((List.range ds.length).map f))) δ1) : Ev K (tLc wi g tYes te vs) δ P := by
  refine ev_lcF fun W F H σ pd S R q => h W F H σ pd S R fun F' H' J ds δ1 h1 => q F' H' J ds δ1 ?_
  obtain ⟨js, f, h1, h2, h3, h4, h5⟩ := h1
  refine ⟨js, fun _ => true, f, h1, h2, h3, fun i d hd => ?_, ?_⟩
  · intro W2 F2 H2 σ2 pd2 v S2 hv Q2 q2
    exact h4 i d hd W2 F2 H2 σ2 pd2 v S2 hv Q2 fun σ' δ'' p2 => q2 σ' δ'' (et_yes ⟨rfl, fun e => (nomatch e), fun _ => p2⟩)
  · rw [List.filter_eq_self.mpr fun _ _ => rfl]; exact h5
/-- the same as assignments of a pair that is laid -/
theorem es_par2G {i j : Nat} (h : Ea K t δ fun rs δ1 => ∃ s1 s2, rs = [.sl s1, .sl s2] ∧ i < δ1.length ∧ j < δ1.length ∧ N.nx ((δ1.set i s1).set j s2)) :
    Es K (tAsg (tTup t) (gSq K 2 (gCons (gName i) (gCons (gName j) gNil)))) δ N := fun W F H σ S D D1 => by
  refine h W F H σ [] S _ fun F1 H1 vs rs δ1 h1 oks S1 => ?_
  obtain ⟨s1, s2, rfl, hi, hj, n⟩ := h1
  have hl := oks.length
  match vs, hl, S1 with
  | [x, y], hl, S1 =>
    refine ⟨by show 2 ≤ sizeLine; decide, fun p hp => .inl ⟨p, [x, y], rfl, SqT.of upd_same, rfl, ?_⟩⟩
    refine ⟨x, _, rfl, y, _, rfl, rfl, D1.1 F1 _ _ _ n ?_⟩
    have S2 := S1.junk (o := .tup [x, y]) hp
    have A := S2.assignAt (k := 0) (v := x) (s := s1) (i := i) rfl hi
    have B := A.assignAt (k := 1) (v := y) (s := s2) (i := j) rfl (by rw [List.length_set]; exact hj)
    exact B.drop (pd := [])
end
end Ek

/-! M84: the plain laws. -/
namespace Ek
open PySem PySem.Spec PyProof.Rows L2
/-- the signs -/
def sgn : List Nat := ("\n ,-.0123456789:;=abcdefghijklmnopqrstuvwxyz" : Str).cps.toList
def okT (m : Nat) (z : Str) : Prop := z.length ≤ m ∧ ∀ c ∈ z.cps.toList, c ∈ sgn
def okR (xs : List Str) : Prop := xs.length ≤ 40 ∧ ∀ z ∈ xs, okT 100 z
abbrev rowD (xs : List Str) : Dt := .tup (xs.map .str)
theorem get_map {α : Type} {f : α → Dt} {xs : List α} {i : Nat} {d : Dt} (h : (xs.map f)[i]? = some d) : ∃ x, xs[i]? = some x ∧ d = f x := by
  rw [List.getElem?_map] at h
  cases e : xs[i]? with
  | none => rw [e] at h; cases h
  | some x => rw [e] at h; exact ⟨x, rfl, (Option.some.inj h).symm⟩
theorem map_true (n : Nat) : (List.range n).map (fun _ => Dt.bl true) = (List.replicate n true).map .bl := by
  rw [List.map_replicate, List.map_const', List.length_range]
theorem all_rep (n : Nat) : (List.replicate n true).all id = true := by
  rw [List.all_eq_true]
  intro x hx
  rw [(List.mem_replicate.mp hx).2]; rfl
theorem signs_len (z : Str) : (signsD z).length = z.length := by
  unfold signsD
  rw [List.length_map, Array.length_toList]; rfl
/-! ### common texts -/
def lc : List Str → List Str → Nat
  | [], _ => 0
  | _ :: _, [] => 0
  | x :: xs, y :: ys => max (max (lc xs (y :: ys)) (lc (x :: xs) ys)) (if x = y then 1 + lc xs ys else 0)
termination_by xs ys => xs.length + ys.length
def tb (one other : List Str) (i j : Nat) : Nat := lc (one.drop i) (other.drop j)
theorem lc_nil (ys : List Str) : lc [] ys = 0 := by unfold lc; rfl
theorem lc_nil2 : ∀ xs : List Str, lc xs [] = 0
  | [] => lc_nil []
  | _ :: _ => by unfold lc; rfl
theorem lc_cons (x : Str) (xs : List Str) (y : Str) (ys : List Str) : lc (x :: xs) (y :: ys) = max (max (lc xs (y :: ys)) (lc (x :: xs) ys)) (if x = y then 1 + lc xs ys else 0) := by
  rw [lc]
theorem tb_end1 {one other : List Str} {i j : Nat} (h : one.length ≤ i) : tb one other i j = 0 := by
  unfold tb; rw [List.drop_of_length_le h]; exact lc_nil _
theorem tb_end2 {one other : List Str} {i j : Nat} (h : other.length ≤ j) : tb one other i j = 0 := by
  unfold tb; rw [List.drop_of_length_le h]; exact lc_nil2 _
theorem tb_step {one other : List Str} {i j : Nat} {x y : Str} (hx : one[i]? = some x) (hy : other[j]? = some y) :
    tb one other i j = max (max (tb one other (i + 1) j) (tb one other i (j + 1))) (if x = y then 1 + tb one other (i + 1) (j + 1) else 0) := by
  obtain ⟨h1, e1⟩ := List.getElem?_eq_some_iff.mp hx
  obtain ⟨h2, e2⟩ := List.getElem?_eq_some_iff.mp hy
  have d1 : one.drop i = x :: one.drop (i + 1) := by rw [List.drop_eq_getElem_cons h1, e1]
  have d2 : other.drop j = y :: other.drop (j + 1) := by rw [List.drop_eq_getElem_cons h2, e2]
  unfold tb
  rw [d1, d2, lc_cons]
theorem tb_le1 (one other : List Str) : ∀ i j, tb one other i j ≤ one.length - i := by
  have key : ∀ n xs ys, xs.length + ys.length ≤ n → lc xs ys ≤ xs.length := fun n => by
    induction n with
    | zero => intro xs ys h; cases xs with
      | nil => rw [lc_nil]; exact Nat.le_refl _
      | cons x xs => simp at h
    | succ n ih =>
      intro xs ys h
      cases xs with
      | nil => rw [lc_nil]; exact Nat.le_refl _
      | cons x xs =>
        cases ys with
        | nil => rw [lc_nil2]; exact Nat.zero_le _
        | cons y ys =>
          simp only [List.length_cons] at h
          have a := ih xs (y :: ys) (by simp; omega)
          have b := ih (x :: xs) ys (by simp; omega)
          have c := ih xs ys (by omega)
          simp only [List.length_cons] at a b ⊢
          rw [lc_cons]
          split <;> omega
  intro i j
  have := key _ (one.drop i) (other.drop j) (Nat.le_refl _)
  rw [List.length_drop] at this
  exact this
/-- a place and one behind it where k more fit -/
def fit (one other : List Str) (k p a : Nat) : Bool := match one[p]?, other[a]? with
  | some x, some y => decide (x = y) && decide (tb one other (p + 1) (a + 1) + 1 = k)
  | _, _ => false
def fitsAt (one other : List Str) (k p j : Nat) : List Nat := (List.range (other.length - j)).map (j + ·) |>.filter fun a => fit one other k p a
/-- the first place from i on that fits, with all its fellows -/
def firstF (one other : List Str) (k j : Nat) : Nat → Nat → Option (Nat × List Nat)
  | _, 0 => none
  | i, n + 1 => if fitsAt one other k i j ≠ [] then some (i, fitsAt one other k i j) else firstF one other k j (i + 1) n
theorem firstF_ne {one other : List Str} {k j : Nat} : ∀ {i n p : Nat} {l : List Nat}, firstF one other k j i n = some (p, l) → l ≠ [] ∧ i ≤ p ∧ p < i + n ∧ l = fitsAt one other k p j
  | i, 0, p, l, h => by simp [firstF] at h
  | i, n + 1, p, l, h => by
    simp only [firstF] at h
    split at h
    · rename_i e
      simp only [Option.some.injEq, Prod.mk.injEq] at h
      obtain ⟨h1, h2⟩ := h
      subst h1 h2
      exact ⟨e, Nat.le_refl _, by omega, rfl⟩
    · obtain ⟨a, b, c, d⟩ := firstF_ne h
      exact ⟨a, by omega, by omega, d⟩
theorem fitsAt_mem {one other : List Str} {k p j a : Nat} : a ∈ fitsAt one other k p j ↔ j ≤ a ∧ a < other.length ∧ fit one other k p a = true := by
  unfold fitsAt
  rw [List.mem_filter, List.mem_map]
  constructor
  · rintro ⟨⟨m, h1, rfl⟩, h2⟩
    have := List.mem_range.mp h1
    exact ⟨by omega, by omega, h2⟩
  · rintro ⟨h1, h2, h3⟩
    exact ⟨⟨a - j, List.mem_range.mpr (by omega), by omega⟩, h3⟩
/-- wherever some are common, a next pair is there -/
theorem fit_ex (one other : List Str) : ∀ n i j, (one.length - i) + (other.length - j) ≤ n → 0 < tb one other i j → ∃ p a, i ≤ p ∧ j ≤ a ∧ fit one other (tb one other i j) p a = true := fun n => by
  induction n with
  | zero =>
    intro i j h h0
    rw [tb_end1 (by omega)] at h0
    omega
  | succ n ih =>
    intro i j h h0
    by_cases hi : i < one.length
    · by_cases hj : j < other.length
      · have e1 : one[i]? = some one[i] := List.getElem?_eq_getElem hi
        have e2 : other[j]? = some other[j] := List.getElem?_eq_getElem hj
        have st := tb_step e1 e2
        by_cases c1 : tb one other (i + 1) j = tb one other i j
        · obtain ⟨p, a, h1, h2, h3⟩ := ih (i + 1) j (by omega) (by omega)
          rw [c1] at h3
          exact ⟨p, a, by omega, h2, h3⟩
        · by_cases c2 : tb one other i (j + 1) = tb one other i j
          · obtain ⟨p, a, h1, h2, h3⟩ := ih i (j + 1) (by omega) (by omega)
            rw [c2] at h3
            exact ⟨p, a, h1, by omega, h3⟩
          · refine ⟨i, j, Nat.le_refl _, Nat.le_refl _, ?_⟩
            unfold fit
            rw [e1, e2]
            split at st
            · rename_i e
              have : tb one other (i + 1) (j + 1) + 1 = tb one other i j := by omega
              simp [e, this]
            · omega
      · rw [tb_end2 (by omega)] at h0; omega
    · rw [tb_end1 (by omega)] at h0; omega
theorem firstF_some {one other : List Str} {k j p a : Nat} : ∀ {n i : Nat}, i ≤ p → p < i + n → j ≤ a → fit one other k p a = true → ∃ r, firstF one other k j i n = some r
  | 0, i, h1, h2, _, _ => by omega
  | n + 1, i, h1, h2, h3, h4 => by
    simp only [firstF]
    split
    · exact ⟨_, rfl⟩
    · rename_i e
      by_cases hp : p = i
      · exfalso
        subst hp
        have ha : a < other.length := by
          unfold fit at h4
          cases q : other[a]? with
          | none => rw [q] at h4; cases one[p]? <;> simp at h4
          | some y => exact (List.getElem?_eq_some_iff.mp q).1
        have : a ∈ fitsAt one other k p j := fitsAt_mem.mpr ⟨h3, ha, h4⟩
        simp only [Decidable.not_not] at e
        rw [e] at this
        cases this
      · exact firstF_some (by omega) (by omega) h3 h4
/-- the first pairs, k of them -/
def prsF (one other : List Str) : Nat → Nat → Nat → List (Nat × Nat)
  | 0, _, _ => []
  | k + 1, i, j => match firstF one other (k + 1) j i (one.length - i) with
    | some (p, a :: _) => (p, a) :: prsF one other k (p + 1) (a + 1)
    | _ => []
def prs (one other : List Str) : List (Nat × Nat) := prsF one other (tb one other 0 0) 0 0
theorem prs_step {one other : List Str} {k i j : Nat} (h : tb one other i j = k + 1) : ∃ p a l, firstF one other (k + 1) j i (one.length - i) = some (p, a :: l) ∧ prsF one other (k + 1) i j = (p, a) :: prsF one other k (p + 1) (a + 1) ∧
    i ≤ p ∧ p < one.length ∧ j ≤ a ∧ a < other.length ∧ one[p]? = other[a]? ∧ tb one other (p + 1) (a + 1) = k := by
  obtain ⟨p, a, h1, h2, h3⟩ := fit_ex one other _ i j (Nat.le_refl _) (by omega)
  rw [h] at h3
  have hp : p < one.length := by
    unfold fit at h3
    cases q : one[p]? with
    | none => rw [q] at h3; simp at h3
    | some y => exact (List.getElem?_eq_some_iff.mp q).1
  obtain ⟨⟨p', l⟩, e⟩ := firstF_some (n := one.length - i) h1 (by omega) h2 h3
  obtain ⟨f1, f2, f3, f4⟩ := firstF_ne e
  cases l with
  | nil => exact absurd rfl f1
  | cons a' l =>
    have m : a' ∈ fitsAt one other (k + 1) p' j := by rw [← f4]; exact List.mem_cons_self ..
    obtain ⟨m1, m2, m3⟩ := fitsAt_mem.mp m
    refine ⟨p', a', l, e, by simp only [prsF, e], f2, by omega, m1, m2, ?_⟩
    unfold fit at m3
    cases q1 : one[p']? with
    | none => rw [q1] at m3; simp at m3
    | some x =>
      cases q2 : other[a']? with
      | none => rw [q1, q2] at m3; simp at m3
      | some y =>
        rw [q1, q2] at m3
        simp only [Bool.and_eq_true, decide_eq_true_eq] at m3
        exact ⟨by rw [m3.1], by omega⟩
theorem prsF_len {one other : List Str} : ∀ {k i j : Nat}, tb one other i j = k → (prsF one other k i j).length = k
  | 0, _, _, _ => rfl
  | k + 1, i, j, h => by
    obtain ⟨p, a, l, _, e, _, _, _, _, _, t⟩ := prs_step h
    rw [e, List.length_cons, prsF_len t]
abbrev prD (p : Nat × Nat) : Dt := .tup [.int p.1, .int p.2]
end Ek

/-! M84b: rows as data; the three-way choice. -/
namespace Ek
open PySem PySem.Spec PyProof.Rows L2
abbrev rowP (xs : List Str) : PyData := .tuple (xs.map .str)
theorem pyAll_str : ∀ xs : List Str, Dt.pyAll (xs.map .str) = some (xs.map .str)
  | [] => rfl
  | x :: xs => by simp only [List.map_cons, Dt.pyAll, Dt.py, pyAll_str xs]
theorem py_row (xs : List Str) : (rowD xs).py = some (rowP xs) := by simp only [Dt.py, pyAll_str, Option.map_some]
theorem eqvAll_str : ∀ xs ys : List Str, PyData.eqvAll (xs.map .str) (ys.map .str) = decide (xs = ys)
  | [], [] => by simp [PyData.eqvAll]
  | [], y :: ys => by simp [PyData.eqvAll]
  | x :: xs, [] => by simp [PyData.eqvAll]
  | x :: xs, y :: ys => by
    simp only [List.map_cons, PyData.eqvAll, PyData.eqv, eqvAll_str xs ys]
    by_cases h1 : x = y
    · by_cases h2 : xs = ys
      · simp [h1, h2]
      · simp [h1, h2]
    · simp [h1]
theorem eqv_row (xs ys : List Str) : PyData.eqv (rowP xs) (rowP ys) = decide (xs = ys) := by
  simp only [PyData.eqv, eqvAll_str]
theorem sgn_ok : sgn.all (fun c => decide (c < 0x110000)) = true := by decide +kernel
theorem strOk_of {m : Nat} {z : Str} (h : okT m z) (hm : m ≤ 400) : PyData.strOk z = true := by
  unfold PyData.strOk
  rw [← Array.all_toList, List.all_eq_true]
  intro c hc
  exact List.all_eq_true.mp sgn_ok c (h.2 c hc)
theorem canLay_str {m : Nat} (hm : m ≤ 400) : ∀ {xs : List Str}, (∀ z ∈ xs, okT m z) → PyData.canLayAll0 (xs.map .str) = true
  | [], _ => by simp [PyData.canLayAll0]
  | x :: xs, h => by
    simp only [List.map_cons, PyData.canLayAll0, PyData.canLay0, strOk_of (h x (List.mem_cons_self ..)) hm, canLay_str hm fun z hz => h z (List.mem_cons_of_mem _ hz), Bool.and_self]
theorem depth_str : ∀ xs : List Str, PyData.depthAll (xs.map .str) = 0
  | [] => by simp [PyData.depthAll]
  | x :: xs => by simp [PyData.depthAll, PyData.depth, depth_str xs]
theorem shaped_row {xs : List Str} (h : ∀ z ∈ xs, okT 100 z) : SeqAt.shaped (rowP xs) = true := by
  unfold SeqAt.shaped
  simp only [PyData.canLay0, canLay_str (by decide) h, PyData.depth, depth_str]
  decide
/-- which of three is taken -/
def tk (b x y : List Str) : Option (List Str) := if x = b then some y else if y = b ∨ y = x then some x else none
def tkD (b x y : List Str) : Dt := match tk b x y with
  | some r => rowD r
  | none => .non
/-! ### pairs as data -/
abbrev prP (p : Nat × Nat) : PyData := .tuple [.int p.1, .int p.2]
theorem pyAll_pr : ∀ l : List (Nat × Nat), Dt.pyAll (l.map prD) = some (l.map prP)
  | [] => rfl
  | p :: l => by simp only [List.map_cons, Dt.pyAll, Dt.py, pyAll_pr l, Option.map_some]
theorem canLay_pr : ∀ l : List (Nat × Nat), PyData.canLayAll0 (l.map prP) = true
  | [] => by simp [PyData.canLayAll0]
  | p :: l => by simp [PyData.canLayAll0, PyData.canLay0, canLay_pr l]
theorem depth_pr : ∀ l : List (Nat × Nat), PyData.depthAll (l.map prP) ≤ 1
  | [] => by simp [PyData.depthAll]
  | p :: l => by
    have := depth_pr l
    show max (PyData.depth (prP p)) (PyData.depthAll (l.map prP)) ≤ 1
    exact Nat.max_le.mpr ⟨by simp [PyData.depth, PyData.depthAll], this⟩
theorem shaped_pr (l : List (Nat × Nat)) : SeqAt.shaped (.list (l.map prP)) = true := by
  have := depth_pr l
  unfold SeqAt.shaped
  rw [Bool.and_eq_true]
  refine ⟨by simp only [PyData.canLay0, canLay_pr], decide_eq_true ?_⟩
  show PyData.depth (.list (l.map prP)) ≤ 64
  rw [PyData.depth]
  omega
theorem shaped_nil : SeqAt.shaped (.list []) = true := shaped_pr []
theorem eqv_nil (l : List PyData) : PyData.eqv (.list l) (.list []) = decide (l = []) := by
  cases l <;> simp [PyData.eqv, PyData.eqvAll]
theorem firstF_s {one other : List Str} {k j i n : Nat} : firstF one other k j i (n + 1) = if fitsAt one other k i j ≠ [] then some (i, fitsAt one other k i j) else firstF one other k j (i + 1) n := rfl
theorem firstF_snoc {one other : List Str} {k j : Nat} : ∀ {t i : Nat}, firstF one other k j i (t + 1) = match firstF one other k j i t with
    | some r => some r
    | none => if fitsAt one other k (i + t) j ≠ [] then some (i + t, fitsAt one other k (i + t) j) else none
  | 0, i => by simp [firstF]
  | t + 1, i => by
    rw [firstF_s (i := i) (n := t + 1), firstF_s (i := i) (n := t)]
    by_cases e : fitsAt one other k i j ≠ []
    · rw [if_pos e, if_pos e]
    · rw [if_neg e, if_neg e, firstF_snoc (t := t) (i := i + 1)]
      have : i + 1 + t = i + (t + 1) := by omega
      rw [this]
/-- the pairs found first -/
def goodL (one other : List Str) (k j i t : Nat) : List (Nat × Nat) := match firstF one other k j i t with
  | some (p, l) => l.map fun a => (p, a)
  | none => []
theorem goodL_zero {one other : List Str} {k j i : Nat} : goodL one other k j i 0 = [] := rfl
theorem goodL_next {one other : List Str} {k j i t : Nat} : goodL one other k j i (t + 1) = if goodL one other k j i t = [] then (fitsAt one other k (i + t) j).map (fun a => (i + t, a)) else goodL one other k j i t := by
  unfold goodL
  rw [firstF_snoc]
  cases e : firstF one other k j i t with
  | none =>
    simp only [if_true]
    by_cases h : fitsAt one other k (i + t) j = []
    · simp [h]
    · simp [h]
  | some r =>
    obtain ⟨p, l⟩ := r
    have := (firstF_ne e).1
    simp [this]
theorem fitsAt_eq {one other : List Str} {k p j : Nat} : fitsAt one other k p j = ((List.range (other.length - j)).filter fun i => fit one other k p (j + i)).map (j + ·) := by
  unfold fitsAt
  rw [List.filter_map]
  rfl
theorem rev_range {α : Type} {k : Nat} {f : Nat → α} : ((List.range (k + 1)).map f).reverse = (List.range (k + 1)).map fun i => f (k - i) := by
  apply List.ext_getElem?
  intro i
  by_cases h : i < k + 1
  · rw [List.getElem?_reverse (by rw [List.length_map, List.length_range]; exact h), List.getElem?_map, List.getElem?_map, List.length_map, List.length_range, List.getElem?_range (by omega), List.getElem?_range h]
    simp only [Option.map_some]
    congr 2
  · rw [List.getElem?_eq_none (by simp; omega), List.getElem?_eq_none (by simp; omega)]
theorem atI_last {xs : List Dt} {d : Dt} {k : Nat} (hl : xs.length = k + 1) (h : xs[k]? = some d) : atI xs (-1) = some d := by
  unfold atI ixN
  rw [hl, if_neg (by decide), if_pos (by omega)]
  show xs[(-1 + ((k + 1 : Nat) : Int)).toNat]? = _
  have : (-1 + ((k + 1 : Nat) : Int)).toNat = k := by omega
  rw [this]; exact h
theorem range_get {k i : Nat} {f : Nat → Dt} (h : i ≤ k) : ((List.range (k + 1)).map f)[i]? = some (f i) := by
  rw [List.getElem?_map, List.getElem?_range (by omega)]; rfl
theorem pyAll_int : ∀ l : List Nat, Dt.pyAll (l.map fun a : Nat => Dt.int (a : Int)) = some (l.map fun a : Nat => PyData.int (a : Int))
  | [] => rfl
  | p :: l => by simp only [List.map_cons, Dt.pyAll, Dt.py, pyAll_int l]
theorem canLay_int : ∀ l : List Nat, PyData.canLayAll0 (l.map fun a : Nat => PyData.int (a : Int)) = true
  | [] => by simp [PyData.canLayAll0]
  | p :: l => by simp [PyData.canLayAll0, PyData.canLay0, canLay_int l]
theorem depth_int : ∀ l : List Nat, PyData.depthAll (l.map fun a : Nat => PyData.int (a : Int)) = 0
  | [] => by simp [PyData.depthAll]
  | p :: l => by simp [PyData.depthAll, PyData.depth, depth_int l]
theorem shaped_int (l : List Nat) : SeqAt.shaped (.list (l.map fun a : Nat => PyData.int (a : Int))) = true := by
  unfold SeqAt.shaped
  rw [Bool.and_eq_true]
  refine ⟨by simp only [PyData.canLay0, canLay_int], decide_eq_true ?_⟩
  show PyData.depth (.list _) ≤ 64
  rw [PyData.depth, depth_int]
  decide
end Ek

namespace Ek
open PySem PySem.Spec PyProof.Rows L2 StX
local macro_rules
  | `(tactic| walk_at "nrm") => `(tactic| dsimp only [asgS, bks2, bk1, List.set_cons_zero, List.set_cons_succ, List.set_nil, wipeS, Sl.put, List.getElem?_cons_zero, List.getElem?_cons_succ, List.getElem?_nil, Option.getD_some, Option.getD_none, reduceIte, Nat.reduceEqDiff, List.map_nil, List.map_cons, List.nil_append, List.cons_append, List.replicate])
local macro_rules
  | `(tactic| walk_at "go1") => `(tactic| first
    | with_reducible refine es_seq ?_
    | with_reducible refine es_ret ?_
    | with_reducible refine es_retN ?_
    | with_reducible refine es_drop ?_
    | with_reducible refine es_asg ?_
    | with_reducible refine es_next ?_
    | with_reducible refine es_brk ?_
    | with_reducible refine es_cont ?_
    | with_reducible refine es_if ?_
    | with_reducible refine es_par ?_
    | with_reducible refine es_par3 ?_
    | with_reducible refine ev_op ?_
    | with_reducible refine ev_cb ?_
    | with_reducible refine ev_sl ?_
    | with_reducible refine eo_no ?_
    | with_reducible refine eo_pt ?_
    | with_reducible refine ea_cons ?_
    | with_reducible refine ea_nil ?_
    | with_reducible refine ea_star ?_
    | with_reducible refine ev_tup ?_
    | with_reducible refine ev_lst ?_
    | ((with_reducible refine ev_c (d := ?_) ?_ ?_); rotate_left; · rfl)
    | ((with_reducible refine ev_im (d := ?_) ?_ ?_); rotate_left; · rfl)
    | ((with_reducible refine ev_bo (s := ?_) ?_ ?_ ?_); rotate_left; (· rfl); (· rfl))
    | with_reducible refine ev_andV ?_
    | with_reducible refine ev_orV ?_
    | with_reducible refine ev_notV ?_
    | with_reducible refine ev_if ?_
    | with_reducible refine ev_neg ?_
    | with_reducible refine ev_isN ?_
    | with_reducible refine ev_notN ?_
    | with_reducible refine ev_cal2 ?_
    | refine Exists.intro _ (And.intro (a := Ags _ _ _ = some _) rfl (And.intro (a := ndB _ = true) rfl ?_))
    | with_reducible refine ev_chainI (fun _ _ => rfl) ?_
    | with_reducible refine et_test ?_
    | with_reducible refine et_val ?_
    | with_reducible refine et_and ?_
    | with_reducible refine et_or ?_
    | with_reducible refine et_not ?_
    | with_reducible refine ap_addI ?_
    | with_reducible refine ap_sub ?_
    | with_reducible refine ap_lt ?_
    | with_reducible refine ap_le ?_
    | with_reducible refine ap_gt ?_
    | with_reducible refine ap_ge ?_
    | with_reducible refine ap_eqI ?_
    | with_reducible refine ap_neI ?_
    | with_reducible refine ap_eqS ?_
    | with_reducible refine ap_neS ?_
    | with_reducible refine ap_max ?_
    | with_reducible refine ap_max3 ?_
    | with_reducible refine ap_min ?_
    | with_reducible refine ap_abs ?_
    | with_reducible refine ap_int ?_
    | with_reducible refine ap_intB ?_
    | ((with_reducible refine ap_len (ds := ?_) ?_ ?_); rotate_left; · rfl)
    | with_reducible refine ap_slT ?_
    | with_reducible refine ap_addT ?_ ?_
    | with_reducible refine ap_inS ?_
    | with_reducible refine ap_tupT ?_
    | ((with_reducible refine ap_tupL (ds := ?_) ?_ ?_); rotate_left; · rfl)
    | ((with_reducible refine ap_list (ds := ?_) ?_ ?_); rotate_left; · rfl)
    | refine ap_isi (b := true) rfl rfl (by decide +kernel) ?_
    | refine ap_isi (b := false) rfl rfl (by decide +kernel) ?_
    | with_reducible refine et_yes ?_
    | refine And.intro (a := List.length _ ≤ sizeLine) (of_decide_eq_true rfl) ?_
    | refine ap_ixO (i := 0) rfl rfl ?_
    | refine ap_ixO (i := 1) rfl rfl ?_
    | refine ap_ixO (i := 2) rfl rfl ?_
    | refine ap_ixO (i := 0) rfl (atI_nat (j := 0) rfl) ?_
    | with_reducible refine ei_any ?_
    | with_reducible refine ei_rng1 ?_
    | with_reducible refine ei_rng2 ?_
    | with_reducible refine ei_rng3 ?_
    | with_reducible refine ei_enumT ?_
    | with_reducible refine ⟨fun _ => ?_, fun (e : true = false) => nomatch e⟩
    | refine ⟨fun (e : (!true) = true) => Bool.noConfusion (show false = true from e), fun _ => ?_⟩
    | refine ⟨fun _ => ?_, fun (e : (!false) = false) => Bool.noConfusion (show true = false from e)⟩
    | with_reducible refine ⟨fun (e : false = true) => nomatch e, fun _ => ?_⟩
    | (with_reducible refine ⟨_, rfl, ?_⟩))
local macro_rules
  | `(tactic| walk_at "go") => `(tactic| repeat walk_at "go1")

abbrev topS (i : Nat) : Stmt := PySem.Challenge.pw_eithermended_k84_whole_long_rows_with_te.main.body.getD i (.Pass ⟨0, 0, 0, 0⟩)
abbrev s_is_tuple : Stmt := topS 3
theorem sc_is_tuple : FnScope ["value", "least", "most"] ["value", "least", "most"] (defScope s_is_tuple) := ⟨rfl, rfl, rfl, by decide +kernel, rfl, by decide +kernel, by decide +kernel⟩
abbrev s_is_text : Stmt := topS 4
theorem sc_is_text : FnScope ["value", "most", "sign"] ["value", "most"] (defScope s_is_text) := ⟨rfl, rfl, rfl, by decide +kernel, rfl, by decide +kernel, by decide +kernel⟩
abbrev s_check_row : Stmt := topS 15
theorem sc_check_row : FnScope ["value", "text"] ["value"] (defScope s_check_row) := ⟨rfl, rfl, rfl, by decide +kernel, rfl, by decide +kernel, by decide +kernel⟩
abbrev s_longest_from : Stmt := topS 16
theorem sc_longest_from : FnScope ["one", "other", "found", "here", "there", "place"] ["one", "other"] (defScope s_longest_from) := ⟨rfl, rfl, rfl, by decide +kernel, rfl, by decide +kernel, by decide +kernel⟩
abbrev s_pairs_of : Stmt := topS 17
theorem sc_pairs_of : FnScope ["one", "other", "most", "pairs", "here", "there", "left", "good", "place", "at"] ["one", "other"] (defScope s_pairs_of) := ⟨rfl, rfl, rfl, by decide +kernel, rfl, by decide +kernel, by decide +kernel⟩
abbrev s_fits : Stmt := topS 18
theorem sc_fits : FnScope ["one", "other", "most", "place", "at", "left"] ["one", "other", "most", "place", "at", "left"] (defScope s_fits) := ⟨rfl, rfl, rfl, by decide +kernel, rfl, by decide +kernel, by decide +kernel⟩
abbrev s_common : Stmt := topS 19
theorem sc_common : FnScope ["one", "other"] ["one", "other"] (defScope s_common) := ⟨rfl, rfl, rfl, by decide +kernel, rfl, by decide +kernel, by decide +kernel⟩
abbrev s_blocks_of : Stmt := topS 20
theorem sc_blocks_of : FnScope ["one", "other", "found", "here", "there", "kept", "place", "at"] ["one", "other"] (defScope s_blocks_of) := ⟨rfl, rfl, rfl, by decide +kernel, rfl, by decide +kernel, by decide +kernel⟩
abbrev s_changes : Stmt := topS 21
theorem sc_changes : FnScope ["one", "other"] ["one", "other"] (defScope s_changes) := ⟨rfl, rfl, rfl, by decide +kernel, rfl, by decide +kernel, by decide +kernel⟩
abbrev s_changed : Stmt := topS 22
theorem sc_changed : FnScope ["row", "value", "found", "here", "block"] ["row", "value"] (defScope s_changed) := ⟨rfl, rfl, rfl, by decide +kernel, rfl, by decide +kernel, by decide +kernel⟩
abbrev s_is_block : Stmt := topS 23
theorem sc_is_block : FnScope ["value", "text", "part"] ["value"] (defScope s_is_block) := ⟨rfl, rfl, rfl, by decide +kernel, rfl, by decide +kernel, by decide +kernel⟩
abbrev s_is_changes : Stmt := topS 24
theorem sc_is_changes : FnScope ["value", "block"] ["value"] (defScope s_is_changes) := ⟨rfl, rfl, rfl, by decide +kernel, rfl, by decide +kernel, by decide +kernel⟩
abbrev s_stable_places : Stmt := topS 25
theorem sc_stable_places : FnScope ["base", "one", "other", "first", "last", "found", "place", "at"] ["base", "one", "other"] (defScope s_stable_places) := ⟨rfl, rfl, rfl, by decide +kernel, rfl, by decide +kernel, by decide +kernel⟩
abbrev s_taken_of : Stmt := topS 26
theorem sc_taken_of : FnScope ["parts", "base", "one", "other"] ["parts"] (defScope s_taken_of) := ⟨rfl, rfl, rfl, by decide +kernel, rfl, by decide +kernel, by decide +kernel⟩
abbrev s_merged_rows : Stmt := topS 27
theorem sc_merged_rows : FnScope ["base", "one", "other", "found", "clashes", "here", "places", "parts", "taken"] ["base", "one", "other"] (defScope s_merged_rows) := ⟨rfl, rfl, rfl, by decide +kernel, rfl, by decide +kernel, by decide +kernel⟩
abbrev s_merged : Stmt := topS 28
theorem sc_merged : FnScope ["base", "one", "other", "row", "clashes"] ["base", "one", "other"] (defScope s_merged) := ⟨rfl, rfl, rfl, by decide +kernel, rfl, by decide +kernel, by decide +kernel⟩
abbrev s__law_pot : Stmt := topS 30
theorem sc__law_pot : FnScope ["script", "place", "cell", "own", "small"] ["script", "place"] (defScope s__law_pot) := ⟨rfl, rfl, rfl, by decide +kernel, rfl, by decide +kernel, by decide +kernel⟩
abbrev s__law_take : Stmt := topS 31
theorem sc__law_take : FnScope ["pot", "upto", "digit", "prime", "blend"] ["pot", "upto"] (defScope s__law_take) := ⟨rfl, rfl, rfl, by decide +kernel, rfl, by decide +kernel, by decide +kernel⟩
abbrev s__law_of : Stmt := topS 32
theorem sc__law_of : FnScope ["pot", "some"] ["pot", "some"] (defScope s__law_of) := ⟨rfl, rfl, rfl, by decide +kernel, rfl, by decide +kernel, by decide +kernel⟩
abbrev s__law_places : Stmt := topS 33
theorem sc__law_places : FnScope ["script", "most"] ["script", "most"] (defScope s__law_places) := ⟨rfl, rfl, rfl, by decide +kernel, rfl, by decide +kernel, by decide +kernel⟩
abbrev s__law_signs : Stmt := topS 34
theorem sc__law_signs : FnScope [] [] (defScope s__law_signs) := ⟨rfl, rfl, rfl, by decide +kernel, rfl, by decide +kernel, by decide +kernel⟩
abbrev s__law_most : Stmt := topS 35
theorem sc__law_most : FnScope ["one", "other", "rows", "text", "row", "below", "at", "same"] ["one", "other"] (defScope s__law_most) := ⟨rfl, rfl, rfl, by decide +kernel, rfl, by decide +kernel, by decide +kernel⟩
abbrev s__law_pairs : Stmt := topS 36
theorem sc__law_pairs : FnScope ["one", "other", "most", "found", "place", "at", "lap", "wanted", "here", "fits_v", "to"] ["one", "other"] (defScope s__law_pairs) := ⟨rfl, rfl, rfl, by decide +kernel, rfl, by decide +kernel, by decide +kernel⟩
abbrev s__law_blocks : Stmt := topS 37
theorem sc__law_blocks : FnScope ["one", "other", "found", "place", "at", "here", "to", "many"] ["one", "other"] (defScope s__law_blocks) := ⟨rfl, rfl, rfl, by decide +kernel, rfl, by decide +kernel, by decide +kernel⟩
abbrev s__law_merged : Stmt := topS 38
theorem sc__law_merged : FnScope ["base", "one", "other", "mine", "its", "held", "row", "clashes", "begin", "end", "parts", "at", "texts"] ["base", "one", "other"] (defScope s__law_merged) := ⟨rfl, rfl, rfl, by decide +kernel, rfl, by decide +kernel, by decide +kernel⟩
abbrev s__law_bent : Stmt := topS 39
theorem sc__law_bent : FnScope ["pot", "row", "pool", "lap", "at"] ["pot", "row", "pool"] (defScope s__law_bent) := ⟨rfl, rfl, rfl, by decide +kernel, rfl, by decide +kernel, by decide +kernel⟩
abbrev s__law_is_pair_right : Stmt := topS 40
theorem sc__law_is_pair_right : FnScope ["one", "other", "pairs", "blocks", "back", "block"] ["one", "other"] (defScope s__law_is_pair_right) := ⟨rfl, rfl, rfl, by decide +kernel, rfl, by decide +kernel, by decide +kernel⟩
abbrev s__law_right : Stmt := topS 41
theorem sc__law_right : FnScope ["pot", "pool", "lap", "base", "rows", "free", "one", "other", "due", "told", "turned", "turn", "begin", "end", "first", "last"] ["pot"] (defScope s__law_right) := ⟨rfl, rfl, rfl, by decide +kernel, rfl, by decide +kernel, by decide +kernel⟩
abbrev s_law : Stmt := topS 42
theorem sc_law : FnScope ["script", "place"] ["script"] (defScope s_law) := ⟨rfl, rfl, rfl, by decide +kernel, rfl, by decide +kernel, by decide +kernel⟩
structure Tx (mg : Str → Option Value) : Prop where
  c_CLASH : ∃ t, mg "CLASH" = some (.str "clash" t)
  c_KEEP : ∃ t, mg "KEEP" = some (.str "keep" t)
  c_MERGED : ∃ t, mg "MERGED" = some (.str "merged" t)
  c_MOST_PIECE : ∃ t, mg "MOST_PIECE" = some (.int 100 t)
  c_MOST_ROW : ∃ t, mg "MOST_ROW" = some (.int 40 t)
  c_MOST_SIGNS : ∃ t, mg "MOST_SIGNS" = some (.int 400 t)
  c_SIGNS : ∃ t, mg "SIGNS" = some (.str "\n ,-.0123456789:;=abcdefghijklmnopqrstuvwxyz" t)
  c_TURN : ∃ t, mg "TURN" = some (.str "turn" t)
  z_abs : mg "abs" = none
  z_all : mg "all" = none
  z_bool : mg "bool" = none
  z_dict : mg "dict" = none
  z_enumerate : mg "enumerate" = none
  z_int : mg "int" = none
  z_isinstance : mg "isinstance" = none
  z_len : mg "len" = none
  z_list : mg "list" = none
  z_max : mg "max" = none
  z_min : mg "min" = none
  z_range : mg "range" = none
  z_repr : mg "repr" = none
  z_str : mg "str" = none
  z_sum : mg "sum" = none
  z_tuple : mg "tuple" = none
abbrev Pr := List Sl → (Sl → List Sl → Prop) → Prop
section
variable {P : Program} {w : World} {K : PySem.W.Frag} {mg : Str → Option Value} {base : Heap}
def A_is_tuple : Pr := fun δa q => ∃ (ds : List Dt) (lo hi : Int), δa = [.im (.tup ds), .im (.int lo), .im (.int hi)] ∧ q (.im (.bl (decide (lo ≤ ds.length) && decide ((ds.length : Int) ≤ hi)))) δa
set_option maxHeartbeats 4000000 in
theorem ok_is_tuple (T : Tx mg)  {f : Addr} {fd : FuncData} (F : Fn K "is_tuple" s_is_tuple f fd) (hm : mg "is_tuple" = some (.ref f)) (hb : Binds K fd ["value", "least", "most"] []) : CalR P w K mg base CX0 1 "is_tuple" (FD K A_is_tuple) := by
  refine cal_fd 3 [] F hm sc_is_tuple hb .nil rfl rfl (fun δa q hA => by simp only [A_is_tuple] at hA; (repeat obtain ⟨_, hA⟩ := hA); simp only [*, List.length_cons, List.length_nil]) fun cdv Ar outer s H E hG hr => ?_
  have hu : (Ar.deeper (envOfC "is_tuple" (defScope s_is_tuple) s.heap.objs.size f cdv)).units + 65 < cLine := by have := hr.un; omega
  refine ⟨_, (pss_one (ps_ret (pe_and (pe_callB (k_isi (K := K) rfl) (by rfl) T.z_isinstance (by decide +kernel) (pa_cons (pv 0) (pa_cons (pe_bltn (v := .ty "tuple") rfl T.z_tuple (by decide +kernel) rfl) pa_nil))) (pe_one (pe_chain op_le op_le (pv 1) (pe_callB (k_len (K := K) rfl) (by rfl) T.z_len (by decide +kernel) (pa_cons (pv 0) pa_nil)) (pv 2)))))), fun δa q hA => ?_⟩
  obtain ⟨ds, lo, hi, rfl, h⟩ := hA
  change Es K _ [_, _, _] _
  walk_at "go"
  refine ⟨_, _, rfl, rfl, fun e1 => ?_, fun e1 => ?_⟩
  · rw [e1] at h
    walk_at "go"
    exact ⟨_, rfl, h⟩
  · rw [e1] at h
    exact ⟨_, rfl, h⟩
def A_is_text : Pr := fun δa q => ∃ (z : Str) (m : Nat), δa = [.im (.str z), .im (.int m)] ∧ m ≤ 400 ∧ okT m z ∧ q (.im (.bl true)) δa
set_option maxHeartbeats 4000000 in
theorem ok_is_text (T : Tx mg)  {f : Addr} {fd : FuncData} (F : Fn K "is_text" s_is_text f fd) (hm : mg "is_text" = some (.ref f)) (hb : Binds K fd ["value", "most"] []) : CalR P w K mg base CX0 1 "is_text" (FD K A_is_text) := by
  refine cal_fd 2 [] F hm sc_is_text hb .nil rfl rfl (fun δa q hA => by simp only [A_is_text] at hA; (repeat obtain ⟨_, hA⟩ := hA); simp only [*, List.length_cons, List.length_nil]) fun cdv Ar outer s H E hG hr => ?_
  have hu : (Ar.deeper (envOfC "is_text" (defScope s_is_text) s.heap.objs.size f cdv)).units + 65 < cLine := by have := hr.un; omega
  refine ⟨_, (pss_one (ps_ret (pe_and (pe_callB (k_isi (K := K) rfl) (by rfl) T.z_isinstance (by decide +kernel) (pa_cons (pv 0) (pa_cons (pe_bltn (v := .ty "str") rfl T.z_str (by decide +kernel) rfl) pa_nil))) (pe_and (pe_cmpR op_le (pe_callB (k_len (K := K) rfl) (by rfl) T.z_len (by decide +kernel) (pa_cons (pv 0) pa_nil)) (pv 1) (nomark _)) (pe_one (pe_callB (k_all (K := K) rfl rfl) (by rfl) T.z_all (by decide +kernel) (pa_cons (pe_lc (own := [("sign", 2)]) rfl sc_is_text.nd (k_iany (K := K) rfl (pv 0)) (blkOk_by (N := ["value", "most", "sign"]) (sc := defScope s_is_text) (by decide +kernel)) (fun _ _ _ _ _ => (pg_name (i := 2) sc_is_text.nd rfl (Or.inl rfl))) (fun _ _ _ _ _ => pts_nil) (fun _ _ _ _ _ => (pe_cmpR (k_in (K := K) rfl hu) (pv 2) (pe_glob (v := .str "\n ,-.0123456789:;=abcdefghijklmnopqrstuvwxyz") rfl T.c_SIGNS.choose_spec ⟨_, rfl⟩) (by with_unfolding_all rfl)))) pa_nil))))))), fun δa q hA => ?_⟩
  obtain ⟨z, m, rfl, hm4, hz, h⟩ := hA
  change Es K _ [_, _, Sl.un] _
  have z1 : z.length ≤ sizeLine := Nat.le_trans hz.1 (Nat.le_trans hm4 (by decide))
  walk_at "go"
  refine ap_lenS z1 ?_
  walk_at "go"
  have e1 : decide ((z.length : Int) ≤ (m : Int)) = true := decide_eq_true (Int.ofNat_le.mpr hz.1)
  rw [e1]
  walk_at "go"
  refine ev_lcN ?_
  walk_at "go"
  refine ⟨[2], fun _ => .bl true, rfl, rfl, by rw [signs_len]; exact Nat.lt_of_le_of_lt (Nat.le_trans hz.1 hm4) (by decide), fun i d hd => ?_, ?_⟩
  · obtain ⟨c, hc, rfl⟩ := get_map hd
    refine eg_name (of_decide_eq_true rfl) ?_
    walk_at "nrm"
    walk_at "go"
    have : decide (c ∈ sgn) = true := decide_eq_true (hz.2 c (List.mem_of_getElem? hc))
    refine ⟨congrArg (fun b => some (Dt.bl b)) this, rfl⟩
  · walk_at "go"
    refine ap_all (bs := List.replicate (signsD z).length true) ?_ ?_
    · exact congrArg some (map_true _)
    · rw [all_rep]; exact ⟨_, rfl, h⟩
def A_check_row : Pr := fun δa q => ∃ xs : List Str, δa = [.im (rowD xs)] ∧ okR xs ∧ q (.im .non) δa
set_option maxHeartbeats 4000000 in
theorem ok_check_row (T : Tx mg) (c_is_text : CalR P w K mg base CX0 1 "is_text" (FD K A_is_text)) (c_is_tuple : CalR P w K mg base CX0 1 "is_tuple" (FD K A_is_tuple)) {f : Addr} {fd : FuncData} (F : Fn K "check_row" s_check_row f fd) (hm : mg "check_row" = some (.ref f)) (hb : Binds K fd ["value"] []) : CalR P w K mg base CX0 2 "check_row" (FD K A_check_row) := by
  refine cal_fd 1 [] F hm sc_check_row hb .nil rfl rfl (fun δa q hA => by simp only [A_check_row] at hA; (repeat obtain ⟨_, hA⟩ := hA); simp only [*, List.length_cons, List.length_nil]) fun cdv Ar outer s H E hG hr => ?_
  have hu : (Ar.deeper (envOfC "check_row" (defScope s_check_row) s.heap.objs.size f cdv)).units + 65 < cLine := by have := hr.un; omega
  refine ⟨_, (pss_one (ps_if (PW.pt (pw_or (pt_not (pt_val (pe_cal c_is_tuple hG (hr.mono (by decide)) pass0 (pa_cons (pv 0) (pa_cons pe_int (pa_cons (pe_glob (v := .int 40) rfl T.c_MOST_ROW.choose_spec ⟨_, rfl⟩) pa_nil)))))) (pw_or1 (pt_not (pt_val (pe_callB (k_all (K := K) rfl rfl) (by rfl) T.z_all (by decide +kernel) (pa_cons (pe_lc (own := [("text", 1)]) rfl sc_check_row.nd (k_iany (K := K) rfl (pv 0)) (blkOk_by (N := ["value", "text"]) (sc := defScope s_check_row) (by decide +kernel)) (fun _ _ _ _ _ => (pg_name (i := 1) sc_check_row.nd rfl (Or.inl rfl))) (fun _ _ _ _ _ => pts_nil) (fun _ _ _ _ _ => (pe_cal c_is_text hG (hr.mono (by decide)) pass0 (pa_cons (pv 1) (pa_cons (pe_glob (v := .int 100) rfl T.c_MOST_PIECE.choose_spec ⟨_, rfl⟩) pa_nil))))) pa_nil))))))) (pss_one ps_never) pss_nil)), fun δa q hA => ?_⟩
  obtain ⟨xs, rfl, hx, h⟩ := hA
  change Es K _ [_, Sl.un] _
  walk_at "go"
  refine ⟨_, 0, 40, rfl, trivial, ?_⟩
  have e1 : (decide ((0 : Int) ≤ ((xs.map Dt.str).length : Nat)) && decide (((xs.map Dt.str).length : Int) ≤ 40)) = true := by
    rw [List.length_map]
    have := hx.1
    rw [Bool.and_eq_true]
    exact ⟨decide_eq_true (by omega), decide_eq_true (by omega)⟩
  rw [e1]
  walk_at "go"
  walk_at "nrm"
  walk_at "go"
  refine ev_lcN ?_
  walk_at "go"
  refine ⟨[1], fun _ => .bl true, rfl, rfl, by rw [List.length_map]; exact Nat.lt_of_le_of_lt hx.1 (by decide), fun i d hd => ?_, ?_⟩
  · obtain ⟨z, hz, rfl⟩ := get_map hd
    refine eg_name (of_decide_eq_true rfl) ?_
    walk_at "nrm"
    walk_at "go"
    exact ⟨z, 100, rfl, by decide, hx.2 z (List.mem_of_getElem? hz), trivial, rfl, rfl⟩
  · walk_at "go"
    refine ap_all (bs := List.replicate (xs.map Dt.str).length true) ?_ ?_
    · exact congrArg some (map_true _)
    · rw [all_rep]
      walk_at "go"
      exact h
end
end Ek

namespace Ek
open PySem PySem.Spec PyProof.Rows L2 StX
local macro_rules
  | `(tactic| walk_at "nrm") => `(tactic| dsimp only [asgS, bks2, bk1, List.set_cons_zero, List.set_cons_succ, List.set_nil, wipeS, Sl.put, List.getElem?_cons_zero, List.getElem?_cons_succ, List.getElem?_nil, Option.getD_some, Option.getD_none, reduceIte, Nat.reduceEqDiff, List.map_nil, List.map_cons, List.nil_append, List.cons_append, List.replicate])
local macro_rules
  | `(tactic| walk_at "go1") => `(tactic| first
    | with_reducible refine es_seq ?_
    | with_reducible refine es_ret ?_
    | with_reducible refine es_retN ?_
    | with_reducible refine es_drop ?_
    | with_reducible refine es_asg ?_
    | with_reducible refine es_next ?_
    | with_reducible refine es_brk ?_
    | with_reducible refine es_cont ?_
    | with_reducible refine es_if ?_
    | with_reducible refine es_par ?_
    | with_reducible refine es_par3 ?_
    | with_reducible refine ev_op ?_
    | with_reducible refine ev_cb ?_
    | with_reducible refine ev_sl ?_
    | with_reducible refine eo_no ?_
    | with_reducible refine eo_pt ?_
    | with_reducible refine ea_cons ?_
    | with_reducible refine ea_nil ?_
    | with_reducible refine ea_star ?_
    | with_reducible refine ev_tup ?_
    | with_reducible refine ev_lst ?_
    | ((with_reducible refine ev_c (d := ?_) ?_ ?_); rotate_left; · rfl)
    | ((with_reducible refine ev_im (d := ?_) ?_ ?_); rotate_left; · rfl)
    | ((with_reducible refine ev_bo (s := ?_) ?_ ?_ ?_); rotate_left; (· rfl); (· rfl))
    | with_reducible refine ev_andV ?_
    | with_reducible refine ev_orV ?_
    | with_reducible refine ev_notV ?_
    | with_reducible refine ev_if ?_
    | with_reducible refine ev_neg ?_
    | with_reducible refine ev_isN ?_
    | with_reducible refine ev_notN ?_
    | with_reducible refine ev_cal2 ?_
    | refine Exists.intro _ (And.intro (a := Ags _ _ _ = some _) rfl (And.intro (a := ndB _ = true) rfl ?_))
    | with_reducible refine ev_chainI (fun _ _ => rfl) ?_
    | with_reducible refine et_test ?_
    | with_reducible refine et_val ?_
    | with_reducible refine et_and ?_
    | with_reducible refine et_or ?_
    | with_reducible refine et_not ?_
    | with_reducible refine ap_addI ?_
    | with_reducible refine ap_sub ?_
    | with_reducible refine ap_lt ?_
    | with_reducible refine ap_le ?_
    | with_reducible refine ap_gt ?_
    | with_reducible refine ap_ge ?_
    | with_reducible refine ap_eqI ?_
    | with_reducible refine ap_neI ?_
    | with_reducible refine ap_eqS ?_
    | with_reducible refine ap_neS ?_
    | with_reducible refine ap_max ?_
    | with_reducible refine ap_max3 ?_
    | with_reducible refine ap_min ?_
    | with_reducible refine ap_abs ?_
    | with_reducible refine ap_int ?_
    | with_reducible refine ap_intB ?_
    | ((with_reducible refine ap_len (ds := ?_) ?_ ?_); rotate_left; · rfl)
    | with_reducible refine ap_slT ?_
    | with_reducible refine ap_addT ?_ ?_
    | with_reducible refine ap_inS ?_
    | with_reducible refine ap_tupT ?_
    | ((with_reducible refine ap_tupL (ds := ?_) ?_ ?_); rotate_left; · rfl)
    | ((with_reducible refine ap_list (ds := ?_) ?_ ?_); rotate_left; · rfl)
    | refine ap_isi (b := true) rfl rfl (by decide +kernel) ?_
    | refine ap_isi (b := false) rfl rfl (by decide +kernel) ?_
    | with_reducible refine et_yes ?_
    | refine And.intro (a := List.length _ ≤ sizeLine) (of_decide_eq_true rfl) ?_
    | refine ap_ixO (i := 0) rfl rfl ?_
    | refine ap_ixO (i := 1) rfl rfl ?_
    | refine ap_ixO (i := 2) rfl rfl ?_
    | refine ap_ixO (i := 0) rfl (atI_nat (j := 0) rfl) ?_
    | with_reducible refine ei_any ?_
    | with_reducible refine ei_rng1 ?_
    | with_reducible refine ei_rng2 ?_
    | with_reducible refine ei_rng3 ?_
    | with_reducible refine ei_enumT ?_
    | with_reducible refine ⟨fun _ => ?_, fun (e : true = false) => nomatch e⟩
    | refine ⟨fun (e : (!true) = true) => Bool.noConfusion (show false = true from e), fun _ => ?_⟩
    | refine ⟨fun _ => ?_, fun (e : (!false) = false) => Bool.noConfusion (show true = false from e)⟩
    | with_reducible refine ⟨fun (e : false = true) => nomatch e, fun _ => ?_⟩
    | (with_reducible refine ⟨_, rfl, ?_⟩))
local macro_rules
  | `(tactic| walk_at "go") => `(tactic| repeat walk_at "go1")

theorem cm {i j : Int} (hi : i.natAbs < 1267650600228229401496703205376) (hj : j.natAbs < 1267650600228229401496703205376) : CMulX i j := mulx_ok (a := 100) (b := 100) hi hj (by decide)
theorem cd {a u : Int} (h0 : 0 < u) (h1 : u ≤ 1000000) : CDivW a u := ⟨h0, by
  refine (Nat.log2_lt (by omega)).mpr (Nat.lt_of_lt_of_le (show u.natAbs < 2 ^ 20 by omega) (Nat.pow_le_pow_right (by decide) (by decide)))⟩
theorem cp {a : Int} {k : Nat} (hk : k ≤ 1000) (h : a.natAbs < 1267650600228229401496703205376) : CPowX a (k : Int) := ⟨Int.natCast_nonneg _, by
  have b := PyProof.Rows.intBits_le (k := 100) (show a.natAbs < 2 ^ 100 from h)
  have e : (Builtin.Int.intBits a : Int) * (k : Int) ≤ 100 * 1000 := Int.mul_le_mul (by omega) (by omega) (by omega) (by decide)
  exact Int.le_trans e (by decide)⟩
theorem prime5 (c : Int) : ∃ p : Int, atI [Dt.int 2147483647, .int 2147483629, .int 2147483587, .int 2147483579, .int 2147483563] (c % 5) = some (.int p) ∧ 0 < p ∧ p < 2147483648 := by
  have h : c % 5 = 0 ∨ c % 5 = 1 ∨ c % 5 = 2 ∨ c % 5 = 3 ∨ c % 5 = 4 := by omega
  rcases h with h | h | h | h | h <;> rw [h]
  · exact ⟨_, rfl, by decide, by decide⟩
  · exact ⟨_, rfl, by decide, by decide⟩
  · exact ⟨_, rfl, by decide, by decide⟩
  · exact ⟨_, rfl, by decide, by decide⟩
  · exact ⟨_, rfl, by decide, by decide⟩
theorem sq_b {c : Int} (h0 : 0 ≤ c) (h1 : c ≤ 1000000) : 0 ≤ 136057 * c * c ∧ 136057 * c * c ≤ 136057000000000000 := by
  have a := Int.mul_nonneg (show 0 ≤ 136057 * c by omega) h0
  have b := Int.mul_le_mul (show 136057 * c ≤ 136057000000 by omega) h1 h0 (by decide)
  exact ⟨a, b⟩
/-- the pot -/
def potD (a b c : Int) : List Dt := [.int a, .int b, .int c]
section
variable {P : Program} {w : World} {K : PySem.W.Frag} {mg : Str → Option Value} {base : Heap}
def A__law_take : Pr := fun δa q => ∃ (a b c u : Int), δa = [.ln 0 (potD a b c), .im (.int u)] ∧ 0 ≤ a ∧ 0 ≤ b ∧ b < 2305843009213693952 ∧ 0 ≤ c ∧ c < 1000000 ∧ 0 < u ∧ u ≤ 1000000 ∧
  ∀ d a' c', 0 ≤ d → d < u → 0 ≤ a' → c ≤ c' → c' ≤ c + 1 → q (.im (.int d)) [.ln 0 (potD a' b c'), .im (.int u)]
set_option maxHeartbeats 4000000 in
theorem ok__law_take (T : Tx mg)  {f : Addr} {fd : FuncData} (F : Fn K "_law_take" s__law_take f fd) (hm : mg "_law_take" = some (.ref f)) (hb : Binds K fd ["pot", "upto"] []) : CalR P w K mg base CX0 1 "_law_take" (FD K A__law_take) := by
  refine cal_fd 2 [] F hm sc__law_take hb .nil rfl rfl (fun δa q hA => by simp only [A__law_take] at hA; (repeat obtain ⟨_, hA⟩ := hA); simp only [*, List.length_cons, List.length_nil]) fun cdv Ar outer s H E hG hr => ?_
  have hu : (Ar.deeper (envOfC "_law_take" (defScope s__law_take) s.heap.objs.size f cdv)).units + 65 < cLine := by have := hr.un; omega
  refine ⟨_, (pss_cons (ps_if (pt_cmpR op_gt (pe_ix (k_ix (K := K) rfl hu) (pv 0) pe_int (fun _ _ => rfl)) pe_int (nomark _)) (pss_cons (ps_set (i := 2) sc__law_take.nd rfl (Or.inl rfl) (pe_op op_mod (pe_callTy call_int' (by rfl) T.z_int (by decide +kernel) (pa_cons (pe_ix (k_ix (K := K) rfl hu) (pv 0) pe_int (fun _ _ => rfl)) pa_nil)) (pv 1))) (pss_cons (ps_asg (pe_op op_fdivW (pe_ix (k_ix (K := K) rfl hu) (pv 0) pe_int (fun _ _ => rfl)) (pv 1)) (pg_sub (pv 0) pe_int set_list)) (pss_one (ps_ret (pv 2))))) pss_nil) (pss_cons (ps_asg (pe_op (k_add (K := K) rfl) (pe_ix (k_ix (K := K) rfl hu) (pv 0) pe_int (fun _ _ => rfl)) pe_int) (pg_sub (pv 0) pe_int set_list)) (pss_cons (ps_set (i := 3) sc__law_take.nd rfl (Or.inl rfl) (pe_ix (k_ix (K := K) rfl hu) (pe_lst (pa_cons pe_int (pa_cons pe_int (pa_cons pe_int (pa_cons pe_int (pa_cons pe_int pa_nil)))))) (pe_op op_mod (pe_callTy call_int' (by rfl) T.z_int (by decide +kernel) (pa_cons (pe_ix (k_ix (K := K) rfl hu) (pv 0) pe_int (fun _ _ => rfl)) pa_nil)) pe_int) (fun _ _ => rfl))) (pss_cons (ps_set (i := 4) sc__law_take.nd rfl (Or.inl rfl) (pe_op op_mod (pe_callTy call_int' (by rfl) T.z_int (by decide +kernel) (pa_cons (pe_op op_powX (pe_callTy call_int' (by rfl) T.z_int (by decide +kernel) (pa_cons (pe_op (k_add (K := K) rfl) (pe_op (k_add (K := K) rfl) (pe_ix (k_ix (K := K) rfl hu) (pv 0) pe_int (fun _ _ => rfl)) (pe_op (k_mul (K := K) rfl) (pe_op (k_mul (K := K) rfl) pe_int (pe_ix (k_ix (K := K) rfl hu) (pv 0) pe_int (fun _ _ => rfl))) (pe_ix (k_ix (K := K) rfl hu) (pv 0) pe_int (fun _ _ => rfl)))) pe_int) pa_nil)) pe_int) pa_nil)) (pv 3))) (pss_cons (ps_set (i := 4) sc__law_take.nd rfl (Or.inl rfl) (pe_op op_mod (pe_callTy call_int' (by rfl) T.z_int (by decide +kernel) (pa_cons (pe_op (k_mul (K := K) rfl) (pv 4) (pe_op (k_add (K := K) rfl) (pe_op op_mod (pe_callTy call_int' (by rfl) T.z_int (by decide +kernel) (pa_cons (pv 4) pa_nil)) pe_int) (pe_op (k_mul (K := K) rfl) pe_int (pe_ix (k_ix (K := K) rfl hu) (pv 0) pe_int (fun _ _ => rfl))))) pa_nil)) pe_int)) (pss_one (ps_ret (pe_op op_mod (pe_callTy call_int' (by rfl) T.z_int (by decide +kernel) (pa_cons (pe_op op_fdivW (pv 4) pe_int) pa_nil)) (pv 1))))))))), fun δa q hA => ?_⟩
  obtain ⟨a, b, c, u, rfl, ha, hb, hb2, hc, hc2, hu0, hu1, h⟩ := hA
  change Es K _ [.ln 0 [.int a, .int b, .int c], _, .un, .un, .un] _
  walk_at "go"
  refine ⟨fun e1 => ?_, fun e1 => ?_⟩
  · walk_at "go"
    refine ap_mod hu0 ?_
    refine ⟨of_decide_eq_true rfl, ?_⟩
    walk_at "nrm"
    refine es_seq (es_set ?_)
    walk_at "go"
    refine ap_fdiv (cd hu0 hu1) ?_
    refine ⟨_, _, _, rfl, rfl, rfl, ?_⟩
    walk_at "go"
    refine ⟨0, _, _, 0, rfl, rfl, rfl, rfl, ?_⟩
    walk_at "nrm"
    walk_at "go"
    exact ⟨_, rfl, h _ _ _ (Int.emod_nonneg _ (by omega)) (Int.emod_lt_of_pos _ hu0) (Int.ediv_nonneg ha (by omega)) (Int.le_refl _) (by omega)⟩
  · refine es_next ?_
    refine es_seq (es_set ?_)
    walk_at "go"
    refine ⟨_, _, _, rfl, rfl, rfl, ?_⟩
    walk_at "go"
    refine ⟨2, _, _, 2, rfl, rfl, rfl, rfl, ?_⟩
    walk_at "nrm"
    walk_at "go"
    walk_at "go"
    refine ap_mod (by decide) ?_
    obtain ⟨p, hp, p0, p1⟩ := prime5 (c + 1)
    refine ap_ixO rfl hp ?_
    refine ⟨of_decide_eq_true rfl, ?_⟩
    walk_at "nrm"
    walk_at "go"
    have hc1 : 0 ≤ c + 1 := by omega
    have hc3 : c + 1 ≤ 1000000 := by omega
    obtain ⟨q0, q1⟩ := sq_b hc1 hc3
    refine ap_mulI (cm (by decide) (by omega)) ?_
    walk_at "go"
    refine ap_mulI (cm (by omega) (by omega)) ?_
    walk_at "go"
    refine ap_pow (cp (k := 3) (by decide) (by omega)) ?_
    walk_at "go"
    refine ap_mod p0 ?_
    refine ⟨of_decide_eq_true rfl, ?_⟩
    walk_at "nrm"
    have r0 := Int.emod_nonneg ((b + 136057 * (c + 1) * (c + 1) + 1903) ^ (3 : Int).toNat) (show p ≠ 0 by omega)
    have r1 := Int.emod_lt_of_pos ((b + 136057 * (c + 1) * (c + 1) + 1903) ^ (3 : Int).toNat) p0
    generalize (b + 136057 * (c + 1) * (c + 1) + 1903) ^ (3 : Int).toNat % p = x at r0 r1 ⊢
    walk_at "go"
    refine ap_mod (by decide) ?_
    walk_at "go"
    refine ap_mulI (cm (by decide) (by omega)) ?_
    walk_at "go"
    refine ap_mulI (cm (by omega) (by omega)) ?_
    walk_at "go"
    refine ap_mod (by decide) ?_
    refine ⟨of_decide_eq_true rfl, ?_⟩
    walk_at "nrm"
    walk_at "go"
    refine ap_fdiv (cd (by decide) (by decide)) ?_
    walk_at "go"
    refine ap_mod hu0 ?_
    refine ⟨_, rfl, ?_⟩
    exact h _ _ _ (Int.emod_nonneg _ (by omega)) (Int.emod_lt_of_pos _ hu0) ha (by omega) (by omega)
end
end Ek

namespace Ek
open PySem PySem.Spec PyProof.Rows L2 StX
local macro_rules
  | `(tactic| walk_at "nrm") => `(tactic| dsimp only [asgS, bks2, bk1, List.set_cons_zero, List.set_cons_succ, List.set_nil, wipeS, Sl.put, List.getElem?_cons_zero, List.getElem?_cons_succ, List.getElem?_nil, Option.getD_some, Option.getD_none, reduceIte, Nat.reduceEqDiff, List.map_nil, List.map_cons, List.nil_append, List.cons_append, List.replicate])
local macro_rules
  | `(tactic| walk_at "go1") => `(tactic| first
    | with_reducible refine es_seq ?_
    | with_reducible refine es_ret ?_
    | with_reducible refine es_retN ?_
    | with_reducible refine es_drop ?_
    | with_reducible refine es_asg ?_
    | with_reducible refine es_next ?_
    | with_reducible refine es_brk ?_
    | with_reducible refine es_cont ?_
    | with_reducible refine es_if ?_
    | with_reducible refine es_par ?_
    | with_reducible refine es_par3 ?_
    | with_reducible refine ev_op ?_
    | with_reducible refine ev_cb ?_
    | with_reducible refine ev_sl ?_
    | with_reducible refine eo_no ?_
    | with_reducible refine eo_pt ?_
    | with_reducible refine ea_cons ?_
    | with_reducible refine ea_nil ?_
    | with_reducible refine ea_star ?_
    | with_reducible refine ev_tup ?_
    | with_reducible refine ev_lst ?_
    | ((with_reducible refine ev_c (d := ?_) ?_ ?_); rotate_left; · rfl)
    | ((with_reducible refine ev_im (d := ?_) ?_ ?_); rotate_left; · rfl)
    | ((with_reducible refine ev_bo (s := ?_) ?_ ?_ ?_); rotate_left; (· rfl); (· rfl))
    | with_reducible refine ev_andV ?_
    | with_reducible refine ev_orV ?_
    | with_reducible refine ev_notV ?_
    | with_reducible refine ev_if ?_
    | with_reducible refine ev_neg ?_
    | with_reducible refine ev_isN ?_
    | with_reducible refine ev_notN ?_
    | with_reducible refine ev_cal2 ?_
    | refine Exists.intro _ (And.intro (a := Ags _ _ _ = some _) rfl (And.intro (a := ndB _ = true) rfl ?_))
    | with_reducible refine ev_chainI (fun _ _ => rfl) ?_
    | with_reducible refine et_test ?_
    | with_reducible refine et_val ?_
    | with_reducible refine et_and ?_
    | with_reducible refine et_or ?_
    | with_reducible refine et_not ?_
    | with_reducible refine ap_addI ?_
    | with_reducible refine ap_sub ?_
    | with_reducible refine ap_lt ?_
    | with_reducible refine ap_le ?_
    | with_reducible refine ap_gt ?_
    | with_reducible refine ap_ge ?_
    | with_reducible refine ap_eqI ?_
    | with_reducible refine ap_neI ?_
    | with_reducible refine ap_eqS ?_
    | with_reducible refine ap_neS ?_
    | with_reducible refine ap_max ?_
    | with_reducible refine ap_max3 ?_
    | with_reducible refine ap_min ?_
    | with_reducible refine ap_abs ?_
    | with_reducible refine ap_int ?_
    | with_reducible refine ap_intB ?_
    | ((with_reducible refine ap_len (ds := ?_) ?_ ?_); rotate_left; · rfl)
    | with_reducible refine ap_slT ?_
    | with_reducible refine ap_addT ?_ ?_
    | with_reducible refine ap_inS ?_
    | with_reducible refine ap_tupT ?_
    | ((with_reducible refine ap_tupL (ds := ?_) ?_ ?_); rotate_left; · rfl)
    | ((with_reducible refine ap_list (ds := ?_) ?_ ?_); rotate_left; · rfl)
    | refine ap_isi (b := true) rfl rfl (by decide +kernel) ?_
    | refine ap_isi (b := false) rfl rfl (by decide +kernel) ?_
    | with_reducible refine et_yes ?_
    | refine And.intro (a := List.length _ ≤ sizeLine) (of_decide_eq_true rfl) ?_
    | refine ap_ixO (i := 0) rfl rfl ?_
    | refine ap_ixO (i := 1) rfl rfl ?_
    | refine ap_ixO (i := 2) rfl rfl ?_
    | refine ap_ixO (i := 0) rfl (atI_nat (j := 0) rfl) ?_
    | with_reducible refine ei_any ?_
    | with_reducible refine ei_rng1 ?_
    | with_reducible refine ei_rng2 ?_
    | with_reducible refine ei_rng3 ?_
    | with_reducible refine ei_enumT ?_
    | with_reducible refine ⟨fun _ => ?_, fun (e : true = false) => nomatch e⟩
    | refine ⟨fun (e : (!true) = true) => Bool.noConfusion (show false = true from e), fun _ => ?_⟩
    | refine ⟨fun _ => ?_, fun (e : (!false) = false) => Bool.noConfusion (show true = false from e)⟩
    | with_reducible refine ⟨fun (e : false = true) => nomatch e, fun _ => ?_⟩
    | (with_reducible refine ⟨_, rfl, ?_⟩))
local macro_rules
  | `(tactic| walk_at "go") => `(tactic| repeat walk_at "go1")

section
variable {P : Program} {w : World} {K : PySem.W.Frag} {mg : Str → Option Value} {base : Heap}
def A_taken_of : Pr := fun δa q => ∃ b x y : List Str, δa = [.im (.tup [rowD b, rowD x, rowD y])] ∧ (∀ z ∈ b, okT 100 z) ∧ (∀ z ∈ x, okT 100 z) ∧ (∀ z ∈ y, okT 100 z) ∧ q (.im (tkD b x y)) δa
set_option maxHeartbeats 4000000 in
theorem ok_taken_of (T : Tx mg)  {f : Addr} {fd : FuncData} (F : Fn K "taken_of" s_taken_of f fd) (hm : mg "taken_of" = some (.ref f)) (hb : Binds K fd ["parts"] []) : CalR P w K mg base CX0 1 "taken_of" (FD K A_taken_of) := by
  refine cal_fd 1 [] F hm sc_taken_of hb .nil rfl rfl (fun δa q hA => by simp only [A_taken_of] at hA; (repeat obtain ⟨_, hA⟩ := hA); simp only [*, List.length_cons, List.length_nil]) fun cdv Ar outer s H E hG hr => ?_
  have hu : (Ar.deeper (envOfC "taken_of" (defScope s_taken_of) s.heap.objs.size f cdv)).units + 65 < cLine := by have := hr.un; omega
  refine ⟨_, (pss_cons (ps_asg (pv 0) (k_gsq (K := K) rfl (n := 3) rfl (pgs_cons (pg_name (i := 1) sc_taken_of.nd rfl (Or.inl rfl)) (pgs_cons (pg_name (i := 2) sc_taken_of.nd rfl (Or.inl rfl)) (pgs_cons (pg_name (i := 3) sc_taken_of.nd rfl (Or.inl rfl)) pgs_nil))))) (pss_cons (ps_if (pt_cmpR (k_eq (K := K) rfl hu) (pv 2) (pv 1) (nomark _)) (pss_one (ps_ret (pv 3))) pss_nil) (pss_one (ps_ret (pe_ifExp (pt_cmpR (k_in (K := K) rfl hu) (pv 3) (pe_tup (pa_cons (pv 1) (pa_cons (pv 2) pa_nil))) (by with_unfolding_all rfl)) (pv 2) pe_non))))), fun δa q hA => ?_⟩
  obtain ⟨b, x, y, rfl, hb1, hx1, hy1, h⟩ := hA
  change Es K _ [_, Sl.un, Sl.un, Sl.un] _
  refine es_seq (es_asgG ?_)
  walk_at "go"
  refine ⟨_, [1, 2, 3], rfl, eg_sqT rfl (egs_cons (eg_name (of_decide_eq_true rfl) (egs_cons (eg_name (of_decide_eq_true rfl) (egs_cons (eg_name (of_decide_eq_true rfl) (egs_nil ?_)))))))⟩
  walk_at "nrm"
  walk_at "go"
  refine ap_eqD (x := rowD x) (y := rowD b) rfl rfl (py_row x) (py_row b) (shaped_row hx1) (shaped_row hb1) ?_
  rw [eqv_row]
  walk_at "go"
  refine ⟨fun e1 => ?_, fun e1 => ?_⟩
  · walk_at "go"
    have e : tkD b x y = rowD y := by
      unfold tkD tk
      rw [if_pos (of_decide_eq_true e1)]
    rw [e] at h
    exact ⟨_, rfl, h⟩
  · have e2 : ¬ x = b := of_decide_eq_false e1
    refine es_next ?_
    walk_at "go"
    refine ap_inT (x := rowD y) (ds := [rowD b, rowD x]) (es := [rowP b, rowP x]) rfl rfl (py_row y) (by simp only [Dt.pyAll, py_row]) (shaped_row hy1) ?_ ?_
    · have z1 := SeqAt.canLay_of_shaped (shaped_row hb1)
      have z2 := SeqAt.canLay_of_shaped (shaped_row hx1)
      unfold SeqAt.shaped
      simp only [PyData.canLay0] at z1 z2
      simp only [PyData.canLay0, PyData.canLayAll0, PyData.depth, PyData.depthAll, depth_str, z1, z2]
      decide
    · have e3 : ([rowP b, rowP x].any fun z => PyData.eqv z (rowP y)) = (decide (b = y) || decide (x = y)) := by
        simp only [List.any_cons, List.any_nil, eqv_row, Bool.or_false]
      rw [e3]
      walk_at "go"
      refine ⟨fun e4 => ?_, fun e4 => ?_⟩
      · walk_at "go"
        have e : tkD b x y = rowD x := by
          unfold tkD tk
          rw [if_neg e2, if_pos]
          simp only [Bool.or_eq_true, decide_eq_true_eq] at e4
          exact e4.imp Eq.symm Eq.symm
        rw [e] at h
        exact ⟨_, rfl, h⟩
      · walk_at "go"
        have e : tkD b x y = .non := by
          unfold tkD tk
          rw [if_neg e2, if_neg]
          simp only [Bool.or_eq_false_iff, decide_eq_false_iff_not] at e4
          rintro (e | e)
          · exact e4.1 e.symm
          · exact e4.2 e.symm
        rw [e] at h
        exact ⟨_, rfl, h⟩
def A__law_signs : Pr := fun δa q => δa = [] ∧ q (.im (.str "\n ,-.0123456789:;=abcdefghijklmnopqrstuvwxyz")) []
set_option maxHeartbeats 4000000 in
theorem ok__law_signs (T : Tx mg)  {f : Addr} {fd : FuncData} (F : Fn K "_law_signs" s__law_signs f fd) (hm : mg "_law_signs" = some (.ref f)) (hb : Binds K fd [] []) : CalR P w K mg base CX0 1 "_law_signs" (FD K A__law_signs) := by
  refine cal_fd 0 [] F hm sc__law_signs hb .nil rfl rfl (fun δa q hA => by simp only [A__law_signs] at hA; (repeat obtain ⟨_, hA⟩ := hA); simp only [*, List.length_cons, List.length_nil]) fun cdv Ar outer s H E hG hr => ?_
  have hu : (Ar.deeper (envOfC "_law_signs" (defScope s__law_signs) s.heap.objs.size f cdv)).units + 65 < cLine := by have := hr.un; omega
  refine ⟨_, (pss_one (ps_ret pe_str)), fun δa q hA => ?_⟩
  obtain ⟨rfl, h⟩ := hA
  change Es K _ [] _
  walk_at "go"
  exact ⟨_, rfl, h⟩
def A__law_places : Pr := fun δa q => ∃ ds : List Dt, δa = [.im (.sq ds), .im (.int 2)] ∧ ds.length ≤ 1000 ∧ ∀ k : Nat, k ≤ 2 → q (.ls (rngD 0 1 k)) δa
set_option maxHeartbeats 4000000 in
theorem ok__law_places (T : Tx mg)  {f : Addr} {fd : FuncData} (F : Fn K "_law_places" s__law_places f fd) (hm : mg "_law_places" = some (.ref f)) (hb : Binds K fd ["script", "most"] []) : CalR P w K mg base CX0 1 "_law_places" (FD K A__law_places) := by
  refine cal_fd 2 [] F hm sc__law_places hb .nil rfl rfl (fun δa q hA => by simp only [A__law_places] at hA; (repeat obtain ⟨_, hA⟩ := hA); simp only [*, List.length_cons, List.length_nil]) fun cdv Ar outer s H E hG hr => ?_
  have hu : (Ar.deeper (envOfC "_law_places" (defScope s__law_places) s.heap.objs.size f cdv)).units + 65 < cLine := by have := hr.un; omega
  refine ⟨_, (pss_one (ps_ret (pe_listRg rfl rfl T.z_list (prg_1 rfl T.z_range (pe_callB (call_max' rfl) (by rfl) T.z_max (by decide +kernel) (pa_cons pe_int (pa_cons (pe_callB (call_min' rfl) (by rfl) T.z_min (by decide +kernel) (pa_cons (pv 1) (pa_cons (pe_callB (k_len (K := K) rfl) (by rfl) T.z_len (by decide +kernel) (pa_cons (pv 0) pa_nil)) pa_nil))) pa_nil))))))), fun δa q hA => ?_⟩
  obtain ⟨ds, rfl, hd, h⟩ := hA
  change Es K _ [_, _] _
  walk_at "go"
  refine ev_lrg1 ?_
  walk_at "go"
  refine ⟨RgOk.of_le (by decide) (by omega) (by omega) (by omega), ?_⟩
  exact ⟨_, rfl, h _ (by omega)⟩
def A__law_of : Pr := fun δa q => (∃ (a b c : Int) (ds : List Dt), δa = [.ln 0 (potD a b c), .im (.lst ds)] ∧ 0 ≤ a ∧ 0 ≤ b ∧ b < 2305843009213693952 ∧ 0 ≤ c ∧ c < 1000000 ∧ 0 < ds.length ∧ ds.length ≤ 1000000 ∧
    ∀ (i : Nat) d a' c', ds[i]? = some d → 0 ≤ a' → c ≤ c' → c' ≤ c + 1 → q (.im d) [.ln 0 (potD a' b c'), .im (.lst ds)]) ∨
  (∃ (a b c : Int) (z : Str), δa = [.ln 0 (potD a b c), .im (.str z)] ∧ 0 ≤ a ∧ 0 ≤ b ∧ b < 2305843009213693952 ∧ 0 ≤ c ∧ c < 1000000 ∧ 0 < z.length ∧ z.length ≤ 1000000 ∧
    ∀ (ch : Nat) a' c', ch ∈ z.cps.toList → 0 ≤ a' → c ≤ c' → c' ≤ c + 1 → q (.im (.str ⟨#[ch]⟩)) [.ln 0 (potD a' b c'), .im (.str z)])
set_option maxHeartbeats 4000000 in
theorem ok__law_of (T : Tx mg) (c__law_take : CalR P w K mg base CX0 1 "_law_take" (FD K A__law_take)) {f : Addr} {fd : FuncData} (F : Fn K "_law_of" s__law_of f fd) (hm : mg "_law_of" = some (.ref f)) (hb : Binds K fd ["pot", "some"] []) : CalR P w K mg base CX0 2 "_law_of" (FD K A__law_of) := by
  refine cal_fd 2 [] F hm sc__law_of hb .nil rfl rfl (fun δa q hA => by rcases hA with ⟨a, b, c, ds, rfl, _⟩ | ⟨a, b, c, ds, rfl, _⟩ <;> rfl) fun cdv Ar outer s H E hG hr => ?_
  have hu : (Ar.deeper (envOfC "_law_of" (defScope s__law_of) s.heap.objs.size f cdv)).units + 65 < cLine := by have := hr.un; omega
  refine ⟨_, (pss_one (ps_ret (pe_ix (k_ix (K := K) rfl hu) (pv 1) (pe_cal c__law_take hG (hr.mono (by decide)) pass0 (pa_cons (pv 0) (pa_cons (pe_callB (k_len (K := K) rfl) (by rfl) T.z_len (by decide +kernel) (pa_cons (pv 1) pa_nil)) pa_nil))) (fun _ _ => rfl)))), fun δa q hA => ?_⟩
  rcases hA with ⟨a, b, c, ds, rfl, ha, hb0, hb1, hc0, hc1, hl0, hl1, h⟩ | ⟨a, b, c, z, rfl, ha, hb0, hb1, hc0, hc1, hl0, hl1, h⟩
  · change Es K _ [_, _] _
    walk_at "go"
    refine ⟨a, b, c, ds.length, rfl, ha, hb0, hb1, hc0, hc1, by omega, by omega, fun d a' c' d0 d1 a0 c0 c2 => ⟨⟨rfl, trivial⟩, ?_⟩⟩
    walk_at "nrm"
    obtain ⟨i, rfl⟩ := Int.eq_ofNat_of_zero_le d0
    have hi : i < ds.length := by omega
    refine ap_ixO (i := (i : Int)) (ds := ds) rfl (atI_nat (List.getElem?_eq_getElem hi)) ?_
    exact ⟨_, rfl, h i _ _ _ (List.getElem?_eq_getElem hi) a0 c0 c2⟩
  · change Es K _ [_, _] _
    have hz : z.length ≤ sizeLine := Nat.le_trans hl1 (by decide)
    walk_at "go"
    refine ap_lenS hz ?_
    walk_at "go"
    refine ⟨a, b, c, z.length, rfl, ha, hb0, hb1, hc0, hc1, by omega, by omega, fun d a' c' d0 d1 a0 c0 c2 => ⟨⟨rfl, trivial⟩, ?_⟩⟩
    walk_at "nrm"
    obtain ⟨i, rfl⟩ := Int.eq_ofNat_of_zero_le d0
    have hi : i < z.cps.toList.length := by rw [Array.length_toList]; show i < z.length; omega
    refine ap_ixOS (i := (i : Int)) hz (atI_nat (List.getElem?_eq_getElem hi)) ?_
    exact ⟨_, rfl, h _ _ _ (List.getElem_mem hi) a0 c0 c2⟩
end
end Ek

namespace Ek
open PySem PySem.Spec PyProof.Rows L2 StX
local macro_rules
  | `(tactic| walk_at "nrm") => `(tactic| dsimp only [asgS, bks2, bk1, List.set_cons_zero, List.set_cons_succ, List.set_nil, wipeS, Sl.put, List.getElem?_cons_zero, List.getElem?_cons_succ, List.getElem?_nil, Option.getD_some, Option.getD_none, reduceIte, Nat.reduceEqDiff, List.map_nil, List.map_cons, List.nil_append, List.cons_append, List.replicate])
local macro_rules
  | `(tactic| walk_at "go1") => `(tactic| first
    | with_reducible refine es_seq ?_
    | with_reducible refine es_ret ?_
    | with_reducible refine es_retN ?_
    | with_reducible refine es_drop ?_
    | with_reducible refine es_asg ?_
    | with_reducible refine es_next ?_
    | with_reducible refine es_brk ?_
    | with_reducible refine es_cont ?_
    | with_reducible refine es_if ?_
    | with_reducible refine es_par ?_
    | with_reducible refine es_par3 ?_
    | with_reducible refine ev_op ?_
    | with_reducible refine ev_cb ?_
    | with_reducible refine ev_sl ?_
    | with_reducible refine eo_no ?_
    | with_reducible refine eo_pt ?_
    | with_reducible refine ea_cons ?_
    | with_reducible refine ea_nil ?_
    | with_reducible refine ea_star ?_
    | with_reducible refine ev_tup ?_
    | with_reducible refine ev_lst ?_
    | ((with_reducible refine ev_c (d := ?_) ?_ ?_); rotate_left; · rfl)
    | ((with_reducible refine ev_im (d := ?_) ?_ ?_); rotate_left; · rfl)
    | ((with_reducible refine ev_bo (s := ?_) ?_ ?_ ?_); rotate_left; (· rfl); (· rfl))
    | with_reducible refine ev_andV ?_
    | with_reducible refine ev_orV ?_
    | with_reducible refine ev_notV ?_
    | with_reducible refine ev_if ?_
    | with_reducible refine ev_neg ?_
    | with_reducible refine ev_isN ?_
    | with_reducible refine ev_notN ?_
    | with_reducible refine ev_cal2 ?_
    | refine Exists.intro _ (And.intro (a := Ags _ _ _ = some _) rfl (And.intro (a := ndB _ = true) rfl ?_))
    | with_reducible refine ev_chainI (fun _ _ => rfl) ?_
    | with_reducible refine et_test ?_
    | with_reducible refine et_val ?_
    | with_reducible refine et_and ?_
    | with_reducible refine et_or ?_
    | with_reducible refine et_not ?_
    | with_reducible refine ap_addI ?_
    | with_reducible refine ap_sub ?_
    | with_reducible refine ap_lt ?_
    | with_reducible refine ap_le ?_
    | with_reducible refine ap_gt ?_
    | with_reducible refine ap_ge ?_
    | with_reducible refine ap_eqI ?_
    | with_reducible refine ap_neI ?_
    | with_reducible refine ap_eqS ?_
    | with_reducible refine ap_neS ?_
    | with_reducible refine ap_max ?_
    | with_reducible refine ap_max3 ?_
    | with_reducible refine ap_min ?_
    | with_reducible refine ap_abs ?_
    | with_reducible refine ap_int ?_
    | with_reducible refine ap_intB ?_
    | ((with_reducible refine ap_len (ds := ?_) ?_ ?_); rotate_left; · rfl)
    | with_reducible refine ap_slT ?_
    | with_reducible refine ap_addT ?_ ?_
    | with_reducible refine ap_inS ?_
    | with_reducible refine ap_tupT ?_
    | ((with_reducible refine ap_tupL (ds := ?_) ?_ ?_); rotate_left; · rfl)
    | ((with_reducible refine ap_list (ds := ?_) ?_ ?_); rotate_left; · rfl)
    | refine ap_isi (b := true) rfl rfl (by decide +kernel) ?_
    | refine ap_isi (b := false) rfl rfl (by decide +kernel) ?_
    | with_reducible refine et_yes ?_
    | refine And.intro (a := List.length _ ≤ sizeLine) (of_decide_eq_true rfl) ?_
    | refine ap_ixO (i := 0) rfl rfl ?_
    | refine ap_ixO (i := 1) rfl rfl ?_
    | refine ap_ixO (i := 2) rfl rfl ?_
    | refine ap_ixO (i := 0) rfl (atI_nat (j := 0) rfl) ?_
    | with_reducible refine ei_any ?_
    | with_reducible refine ei_rng1 ?_
    | with_reducible refine ei_rng2 ?_
    | with_reducible refine ei_rng3 ?_
    | with_reducible refine ei_enumT ?_
    | with_reducible refine ⟨fun _ => ?_, fun (e : true = false) => nomatch e⟩
    | refine ⟨fun (e : (!true) = true) => Bool.noConfusion (show false = true from e), fun _ => ?_⟩
    | refine ⟨fun _ => ?_, fun (e : (!false) = false) => Bool.noConfusion (show true = false from e)⟩
    | with_reducible refine ⟨fun (e : false = true) => nomatch e, fun _ => ?_⟩
    | (with_reducible refine ⟨_, rfl, ?_⟩))
local macro_rules
  | `(tactic| walk_at "go") => `(tactic| repeat walk_at "go1")

/-! ### matrices of numbers -/
def mrow (m : Nat) (f : Nat → Nat) : List Dt := (List.range (m + 1)).map fun j => .int (f j)
def mtx (n m : Nat) (M : Nat → Nat → Nat) : List (List Dt) := (List.range (n + 1)).map fun i => mrow m (M i)
def updM (M : Nat → Nat → Nat) (i j v : Nat) : Nat → Nat → Nat := fun a b => if a = i ∧ b = j then v else M a b
theorem mtx_len {n m : Nat} {M : Nat → Nat → Nat} : (mtx n m M).length = n + 1 := by unfold mtx; rw [List.length_map, List.length_range]
theorem mrow_len {m : Nat} {f : Nat → Nat} : (mrow m f).length = m + 1 := by unfold mrow; rw [List.length_map, List.length_range]
theorem mtx_get {n m i : Nat} {M : Nat → Nat → Nat} (h : i ≤ n) : (mtx n m M)[i]? = some (mrow m (M i)) := by
  unfold mtx; rw [List.getElem?_map, List.getElem?_range (by omega)]; rfl
theorem mrow_get {m j : Nat} {f : Nat → Nat} (h : j ≤ m) : (mrow m f)[j]? = some (.int (f j)) := by
  unfold mrow; rw [List.getElem?_map, List.getElem?_range (by omega)]; rfl
theorem mtx_set {n m i j v : Nat} {M : Nat → Nat → Nat} : (mtx n m M).set i ((mrow m (M i)).set j (.int v)) = mtx n m (updM M i j v) := by
  apply List.ext_getElem?
  intro a
  by_cases ha : a ≤ n
  · rw [mtx_get ha]
    by_cases e : a = i
    · subst e
      rw [List.getElem?_set_self (by rw [mtx_len]; omega)]
      congr 1
      apply List.ext_getElem?
      intro b
      by_cases hb : b ≤ m
      · rw [mrow_get hb]
        by_cases e : b = j
        · subst e
          rw [List.getElem?_set_self (by rw [mrow_len]; omega)]
          simp [updM]
        · rw [List.getElem?_set_ne (Ne.symm e), mrow_get hb]
          simp [updM, e]
      · rw [List.getElem?_eq_none (by rw [List.length_set, mrow_len]; omega), List.getElem?_eq_none (by rw [mrow_len]; omega)]
    · rw [List.getElem?_set_ne (Ne.symm e), mtx_get ha]
      congr 1
      unfold mrow
      apply List.map_congr_left
      intro b _
      simp [updM, e]
  · rw [List.getElem?_eq_none (by rw [List.length_set, mtx_len]; omega), List.getElem?_eq_none (by rw [mtx_len]; omega)]
theorem ixN_nat {n j : Nat} (h : j < n) : ixN n (j : Int) = some j := by
  unfold ixN
  rw [if_pos (by omega), if_pos (by omega)]; rfl
theorem rep_row (m : Nat) : (List.replicate ((m : Int) + 1).toNat [Dt.int 0]).flatten = mrow m fun _ => 0 := by
  have : ((m : Int) + 1).toNat = m + 1 := by omega
  rw [this]
  unfold mrow
  have : ∀ k, (List.replicate k [Dt.int 0]).flatten = List.replicate k (Dt.int 0) := fun k => by
    induction k with
    | zero => rfl
    | succ k ih => rw [List.replicate_succ, List.flatten_cons, ih, List.replicate_succ]; rfl
  rw [this, List.map_const', List.length_range]
  rfl
/-- what stands in the table behind t rows and u places of the next one -/
def Mi (one other : List Str) (t u : Nat) : Nat → Nat → Nat := fun i j => if one.length ≤ i + t ∨ (i + t + 1 = one.length ∧ other.length ≤ j + u) then tb one other i j else 0
def tabD (one other : List Str) : List (List Dt) := mtx one.length other.length (tb one other)
theorem Mi_next {one other : List Str} {t : Nat} : Mi one other t other.length = Mi one other (t + 1) 0 := by
  funext i j
  unfold Mi
  by_cases h : one.length ≤ i + t
  · rw [if_pos (.inl h), if_pos (.inl (by omega))]
  · by_cases h2 : i + t + 1 = one.length
    · rw [if_pos (.inr ⟨h2, by omega⟩), if_pos (.inl (by omega))]
    · rw [if_neg (by omega)]
      by_cases h3 : i + (t + 1) + 1 = one.length ∧ other.length ≤ j + 0
      · rw [if_pos (.inr h3), tb_end2 (by omega)]
      · rw [if_neg (by omega)]
theorem Mi_zero {one other : List Str} : Mi one other 0 0 = fun _ _ => 0 := by
  funext i j
  unfold Mi
  split
  · rename_i h
    rcases h with h | h
    · exact tb_end1 (by omega)
    · exact tb_end2 (by omega)
  · rfl
theorem Mi_end {one other : List Str} {i j : Nat} (h : i ≤ one.length) : Mi one other one.length 0 i j = tb one other i j := by
  unfold Mi
  rw [if_pos (.inl (by omega))]
theorem Mi_upd {one other : List Str} {t u : Nat} (ht : t < one.length) (hu : u < other.length) : updM (Mi one other t u) (one.length - 1 - t) (other.length - 1 - u) (tb one other (one.length - 1 - t) (other.length - 1 - u)) = Mi one other t (u + 1) := by
  funext i j
  unfold updM
  by_cases h : i = one.length - 1 - t ∧ j = other.length - 1 - u
  · rw [if_pos h, h.1, h.2]
    unfold Mi
    rw [if_pos (.inr ⟨by omega, by omega⟩)]
  · rw [if_neg h]
    unfold Mi
    by_cases h2 : one.length ≤ i + t ∨ (i + t + 1 = one.length ∧ other.length ≤ j + u)
    · rw [if_pos h2, if_pos (by omega)]
    · rw [if_neg h2, if_neg (by omega)]
theorem Mi_at {one other : List Str} {t u i j : Nat} (h : one.length ≤ i + t ∨ (i + t + 1 = one.length ∧ other.length ≤ j + u)) : Mi one other t u i j = tb one other i j := if_pos h
section
variable {P : Program} {w : World} {K : PySem.W.Frag} {mg : Str → Option Value} {base : Heap}
def A_longest_from : Pr := fun δa q => ∃ one other : List Str, δa = [.im (rowD one), .im (rowD other)] ∧ one.length ≤ 1000 ∧ other.length ≤ 1000 ∧ (∀ z ∈ one, okT 100 z) ∧ (∀ z ∈ other, okT 100 z) ∧ q (.mt (tabD one other)) δa
set_option maxHeartbeats 4000000 in
theorem ok_longest_from (T : Tx mg)  {f : Addr} {fd : FuncData} (F : Fn K "longest_from" s_longest_from f fd) (hm : mg "longest_from" = some (.ref f)) (hb : Binds K fd ["one", "other"] []) : CalR P w K mg base CX0 1 "longest_from" (FD K A_longest_from) := by
  refine cal_fd 2 [] F hm sc_longest_from hb .nil rfl rfl (fun δa q hA => by simp only [A_longest_from] at hA; (repeat obtain ⟨_, hA⟩ := hA); simp only [*, List.length_cons, List.length_nil]) fun cdv Ar outer s H E hG hr => ?_
  have hu : (Ar.deeper (envOfC "longest_from" (defScope s_longest_from) s.heap.objs.size f cdv)).units + 65 < cLine := by have := hr.un; omega
  refine ⟨_, (pss_cons (ps_setLc (i := 2) (own := [("place", 5)]) rfl sc_longest_from.nd rfl rfl (sw_true rfl rfl rfl (by decide +kernel)) (pi_range1 rfl T.z_range (pa_cons (pe_op (k_add (K := K) rfl) (pe_callB (k_len (K := K) rfl) (by rfl) T.z_len (by decide +kernel) (pa_cons (pv 0) pa_nil)) pe_int) pa_nil)) (blkOk_by (N := ["one", "other", "found", "here", "there", "place"]) (sc := defScope s_longest_from) (by decide +kernel)) (fun _ _ _ _ _ => (pg_name (i := 5) sc_longest_from.nd rfl (Or.inl rfl))) (fun _ _ _ _ _ => pts_nil) (fun _ _ _ _ _ => (pe_op (k_mul (K := K) rfl) (pe_lst (pa_cons pe_int pa_nil)) (pe_op (k_add (K := K) rfl) (pe_callB (k_len (K := K) rfl) (by rfl) T.z_len (by decide +kernel) (pa_cons (pv 1) pa_nil)) pe_int)))) (pss_cons (ps_for PassesOwn.never rfl (pi_range3 rfl T.z_range (pa_cons (pe_op op_sub (pe_callB (k_len (K := K) rfl) (by rfl) T.z_len (by decide +kernel) (pa_cons (pv 0) pa_nil)) pe_int) (pa_cons (pe_un un_neg pe_int) (pa_cons (pe_un un_neg pe_int) pa_nil)))) (pg_name (i := 3) sc_longest_from.nd rfl (Or.inl rfl)) (pss_one (ps_for PassesOwn.never rfl (pi_range3 rfl T.z_range (pa_cons (pe_op op_sub (pe_callB (k_len (K := K) rfl) (by rfl) T.z_len (by decide +kernel) (pa_cons (pv 1) pa_nil)) pe_int) (pa_cons (pe_un un_neg pe_int) (pa_cons (pe_un un_neg pe_int) pa_nil)))) (pg_name (i := 4) sc_longest_from.nd rfl (Or.inl rfl)) (pss_cons (ps_asg (pe_callB (call_max' rfl) (by rfl) T.z_max (by decide +kernel) (pa_cons (pe_ix (k_ix (K := K) rfl hu) (pe_ix (k_ix (K := K) rfl hu) (pv 2) (pe_op (k_add (K := K) rfl) (pv 3) pe_int) (fun _ _ => rfl)) (pv 4) (fun _ _ => rfl)) (pa_cons (pe_ix (k_ix (K := K) rfl hu) (pe_ix (k_ix (K := K) rfl hu) (pv 2) (pv 3) (fun _ _ => rfl)) (pe_op (k_add (K := K) rfl) (pv 4) pe_int) (fun _ _ => rfl)) pa_nil))) (pg_sub (pe_ix (k_ix (K := K) rfl hu) (pv 2) (pv 3) (fun _ _ => rfl)) (pv 4) set_list)) (pss_one (ps_if (pt_cmpR (k_eq (K := K) rfl hu) (pe_ix (k_ix (K := K) rfl hu) (pv 0) (pv 3) (fun _ _ => rfl)) (pe_ix (k_ix (K := K) rfl hu) (pv 1) (pv 4) (fun _ _ => rfl)) (nomark _)) (pss_one (ps_asg (pe_callB (call_max' rfl) (by rfl) T.z_max (by decide +kernel) (pa_cons (pe_ix (k_ix (K := K) rfl hu) (pe_ix (k_ix (K := K) rfl hu) (pv 2) (pv 3) (fun _ _ => rfl)) (pv 4) (fun _ _ => rfl)) (pa_cons (pe_op (k_add (K := K) rfl) pe_int (pe_ix (k_ix (K := K) rfl hu) (pe_ix (k_ix (K := K) rfl hu) (pv 2) (pe_op (k_add (K := K) rfl) (pv 3) pe_int) (fun _ _ => rfl)) (pe_op (k_add (K := K) rfl) (pv 4) pe_int) (fun _ _ => rfl))) pa_nil))) (pg_sub (pe_ix (k_ix (K := K) rfl hu) (pv 2) (pv 3) (fun _ _ => rfl)) (pv 4) set_list))) pss_nil)))))) (pss_one (ps_ret (pv 2))))), fun δa q hA => ?_⟩
  obtain ⟨one, other, rfl, hn, hm', o1, o2, h⟩ := hA
  change Es K _ [_, _, Sl.un, Sl.un, Sl.un, Sl.un] _
  refine es_seq (es_asg (ev_lcM ?_))
  walk_at "go"
  refine ⟨(by simp only [List.length_map]; omega), (by simp only [List.length_map]; omega), ?_⟩
  refine ⟨[5], fun _ => mrow other.length fun _ => 0, subB_sub rfl, unB_un rfl, ?_, fun i d hd => ?_, ?_⟩
  · rw [rngD_len]
    simp only [List.length_map]
    exact Nat.lt_of_le_of_lt (show _ ≤ 1001 by omega) (by decide)
  · refine eg_name (of_decide_eq_true rfl) ?_
    walk_at "nrm"
    walk_at "go"
    refine ap_mulL (xs := [.int 0]) rfl ⟨by omega, by simp only [List.length_map]; omega⟩ ?_ ⟨?_, rfl⟩
    · rw [List.length_map]
      show 1 * ((other.length : Int) + 1).toNat ≤ sizeLine
      exact Nat.le_trans (show _ ≤ 1001 by omega) (by decide)
    · rw [List.length_map, rep_row]
  · have e0 : (List.range (rngD 0 1 (((List.map Dt.str one).length : Int) + 1).toNat).length).map (fun _ => mrow other.length fun _ => 0) = mtx one.length other.length (Mi one other 0 0) := by
      rw [rngD_len, Mi_zero, List.length_map]
      unfold mtx
      congr 2
    refine ⟨of_decide_eq_true rfl, ?_⟩
    rw [e0]
    walk_at "nrm"
    refine es_seq (es_for ?_)
    walk_at "go"
    refine ⟨_, _, _, one.length, rfl, ?_, ?_⟩
    · have := RgC.neg (i := ((List.map Dt.str one).length : Int) - 1) (j := -1) (by rw [List.length_map]; omega) (by rw [List.length_map]; omega) (by decide) (by decide)
      rw [show (((List.map Dt.str one).length : Int) - 1 - -1).toNat = one.length by rw [List.length_map]; omega] at this
      exact this
    refine ⟨fun t δ' => ∃ a b, δ' = [.im (rowD one), .im (rowD other), .mt (mtx one.length other.length (Mi one other t 0)), a, b, .un], [3], ⟨_, _, rfl⟩, fun t d δ' hd hI => ?_, fun δ' hI => ?_⟩
    · obtain ⟨a, b, rfl⟩ := hI
      obtain ⟨ht, rfl⟩ := rngD_get hd
      have e1 : ((List.map Dt.str one).length : Int) - 1 + (t : Int) * -1 = ((one.length - 1 - t : Nat) : Int) := by rw [List.length_map]; omega
      rw [e1]
      refine eg_name (of_decide_eq_true rfl) ?_
      walk_at "nrm"
      refine es_for ?_
      walk_at "go"
      refine ⟨_, _, _, other.length, rfl, ?_, ?_⟩
      · have := RgC.neg (i := ((List.map Dt.str other).length : Int) - 1) (j := -1) (by rw [List.length_map]; omega) (by rw [List.length_map]; omega) (by decide) (by decide)
        rw [show (((List.map Dt.str other).length : Int) - 1 - -1).toNat = other.length by rw [List.length_map]; omega] at this
        exact this
      refine ⟨fun u δ' => ∃ b, δ' = [.im (rowD one), .im (rowD other), .mt (mtx one.length other.length (Mi one other t u)), .im (.int ((one.length - 1 - t : Nat) : Int)), b, .un], [4], ⟨_, rfl⟩, fun u d δ' hd hI => ?_, fun δ' hI => ?_⟩
      · obtain ⟨b, rfl⟩ := hI
        obtain ⟨hu', rfl⟩ := rngD_get hd
        have e2 : ((List.map Dt.str other).length : Int) - 1 + (u : Int) * -1 = ((other.length - 1 - u : Nat) : Int) := by rw [List.length_map]; omega
        rw [e2]
        refine eg_name (of_decide_eq_true rfl) ?_
        walk_at "nrm"
        obtain ⟨x, hx⟩ : ∃ x, one[one.length - 1 - t]? = some x := ⟨_, List.getElem?_eq_getElem (by omega)⟩
        obtain ⟨y, hy⟩ : ∃ y, other[other.length - 1 - u]? = some y := ⟨_, List.getElem?_eq_getElem (by omega)⟩
        have st := tb_step hx hy
        have up := Mi_upd (one := one) (other := other) ht hu'
        generalize hi0 : one.length - 1 - t = i0 at hx st up ⊢
        generalize hj0 : other.length - 1 - u = j0 at hy st up ⊢
        have m1 : Mi one other t u (i0 + 1) j0 = tb one other (i0 + 1) j0 := Mi_at (.inl (by omega))
        have m2 : Mi one other t u i0 (j0 + 1) = tb one other i0 (j0 + 1) := Mi_at (.inr ⟨by omega, by omega⟩)
        have m3 : Mi one other t u (i0 + 1) (j0 + 1) = tb one other (i0 + 1) (j0 + 1) := Mi_at (.inl (by omega))
        refine es_seq (es_mset ?_)
        refine ev_cb (ea_cons (ev_ix2 (a := (i0 : Int) + 1) (b := ((j0 : Nat) : Int)) rfl (ep_add (ep_var rfl) (ep_c rfl)) (ep_var rfl) (atI_nat (j := i0 + 1) (mtx_get (by omega))) (atI_nat (mrow_get (by omega))) ?_))
        refine ea_cons (ev_ix2 (a := ((i0 : Nat) : Int)) (b := (j0 : Int) + 1) rfl (ep_var rfl) (ep_add (ep_var rfl) (ep_c rfl)) (atI_nat (mtx_get (by omega))) (atI_nat (j := j0 + 1) (mrow_get (by omega))) ?_)
        walk_at "go"
        rw [m1, m2]
        refine ⟨_, _, ((i0 : Nat) : Int), ((j0 : Nat) : Int), i0, j0, _, rfl, rfl, ep_var rfl, ep_var rfl, ixN_nat (by rw [mtx_len]; omega), mtx_get (by omega), ixN_nat (by rw [mrow_len]; omega), ?_⟩
        have em : max (tb one other (i0 + 1) j0 : Int) (tb one other i0 (j0 + 1) : Int) = ((max (tb one other (i0 + 1) j0) (tb one other i0 (j0 + 1)) : Nat) : Int) := by omega
        rw [em, mtx_set]
        walk_at "nrm"
        walk_at "go"
        refine ap_ixO rfl (atM hx) ?_
        walk_at "go"
        refine ap_ixO rfl (atM hy) ?_
        walk_at "go"
        refine ⟨fun q1 => ?_, fun q1 => ?_⟩
        · have q2 := of_decide_eq_true q1
          rw [if_pos q2] at st
          refine es_mset ?_
          refine ev_cb (ea_cons (ev_ix2 (a := ((i0 : Nat) : Int)) (b := ((j0 : Nat) : Int)) rfl (ep_var rfl) (ep_var rfl) (atI_nat (mtx_get (by omega))) (atI_nat (mrow_get (by omega))) ?_))
          refine ea_cons (ev_op (ev_c rfl (ev_ix2 (a := (i0 : Int) + 1) (b := (j0 : Int) + 1) rfl (ep_add (ep_var rfl) (ep_c rfl)) (ep_add (ep_var rfl) (ep_c rfl)) (atI_nat (j := i0 + 1) (mtx_get (by omega))) (atI_nat (j := j0 + 1) (mrow_get (by omega))) ?_)))
          refine ap_addI (ea_nil (ap_max ?_))
          have n1 : updM (Mi one other t u) i0 j0 (max (tb one other (i0 + 1) j0) (tb one other i0 (j0 + 1))) i0 j0 = max (tb one other (i0 + 1) j0) (tb one other i0 (j0 + 1)) := by simp [updM]
          have n2 : updM (Mi one other t u) i0 j0 (max (tb one other (i0 + 1) j0) (tb one other i0 (j0 + 1))) (i0 + 1) (j0 + 1) = tb one other (i0 + 1) (j0 + 1) := by
            rw [← m3]
            simp [updM]
          rw [n1, n2]
          refine ⟨_, _, ((i0 : Nat) : Int), ((j0 : Nat) : Int), i0, j0, _, rfl, rfl, ep_var rfl, ep_var rfl, ixN_nat (by rw [mtx_len]; omega), mtx_get (by omega), ixN_nat (by rw [mrow_len]; omega), ?_⟩
          have em2 : max ((max (tb one other (i0 + 1) j0) (tb one other i0 (j0 + 1)) : Nat) : Int) (1 + (tb one other (i0 + 1) (j0 + 1) : Int)) = ((tb one other i0 j0 : Nat) : Int) := by rw [st]; omega
          rw [em2, mtx_set]
          have e3 : updM (updM (Mi one other t u) i0 j0 (max (tb one other (i0 + 1) j0) (tb one other i0 (j0 + 1)))) i0 j0 (tb one other i0 j0) = Mi one other t (u + 1) := by
            rw [← up]
            funext a b
            unfold updM
            split <;> rfl
          rw [e3]
          exact ⟨_, rfl⟩
        · have q2 := of_decide_eq_false q1
          rw [if_neg q2] at st
          refine es_next ?_
          have e3 : max (tb one other (i0 + 1) j0) (tb one other i0 (j0 + 1)) = tb one other i0 j0 := by rw [st]; omega
          rw [e3, up]
          exact ⟨_, rfl⟩
      · obtain ⟨b, rfl⟩ := hI
        rw [rngD_len, Mi_next]
        exact ⟨_, _, rfl⟩
    · obtain ⟨a, b, rfl⟩ := hI
      rw [rngD_len]
      have e4 : mtx one.length other.length (Mi one other one.length 0) = tabD one other := by
        unfold mtx tabD mtx
        apply List.map_congr_left
        intro i hi
        have := List.mem_range.mp hi
        congr 1
        funext j
        exact Mi_end (by omega)
      rw [e4]
      walk_at "go"
      exact ⟨_, rfl, h⟩
end
end Ek

namespace Ek
open PySem PySem.Spec PyProof.Rows L2 StX
local macro_rules
  | `(tactic| walk_at "nrm") => `(tactic| dsimp only [asgS, bks2, bk1, List.set_cons_zero, List.set_cons_succ, List.set_nil, wipeS, Sl.put, List.getElem?_cons_zero, List.getElem?_cons_succ, List.getElem?_nil, Option.getD_some, Option.getD_none, reduceIte, Nat.reduceEqDiff, List.map_nil, List.map_cons, List.nil_append, List.cons_append, List.replicate])
local macro_rules
  | `(tactic| walk_at "go1") => `(tactic| first
    | with_reducible refine es_seq ?_
    | with_reducible refine es_ret ?_
    | with_reducible refine es_retN ?_
    | with_reducible refine es_drop ?_
    | with_reducible refine es_asg ?_
    | with_reducible refine es_next ?_
    | with_reducible refine es_brk ?_
    | with_reducible refine es_cont ?_
    | with_reducible refine es_if ?_
    | with_reducible refine es_par ?_
    | with_reducible refine es_par3 ?_
    | with_reducible refine ev_op ?_
    | with_reducible refine ev_cb ?_
    | with_reducible refine ev_sl ?_
    | with_reducible refine eo_no ?_
    | with_reducible refine eo_pt ?_
    | with_reducible refine ea_cons ?_
    | with_reducible refine ea_nil ?_
    | with_reducible refine ea_star ?_
    | with_reducible refine ev_tup ?_
    | with_reducible refine ev_lst ?_
    | ((with_reducible refine ev_c (d := ?_) ?_ ?_); rotate_left; · rfl)
    | ((with_reducible refine ev_im (d := ?_) ?_ ?_); rotate_left; · rfl)
    | ((with_reducible refine ev_bo (s := ?_) ?_ ?_ ?_); rotate_left; (· rfl); (· rfl))
    | with_reducible refine ev_andV ?_
    | with_reducible refine ev_orV ?_
    | with_reducible refine ev_notV ?_
    | with_reducible refine ev_if ?_
    | with_reducible refine ev_neg ?_
    | with_reducible refine ev_isN ?_
    | with_reducible refine ev_notN ?_
    | with_reducible refine ev_cal2 ?_
    | refine Exists.intro _ (And.intro (a := Ags _ _ _ = some _) rfl (And.intro (a := ndB _ = true) rfl ?_))
    | with_reducible refine ev_chainI (fun _ _ => rfl) ?_
    | with_reducible refine et_test ?_
    | with_reducible refine et_val ?_
    | with_reducible refine et_and ?_
    | with_reducible refine et_or ?_
    | with_reducible refine et_not ?_
    | with_reducible refine ap_addI ?_
    | with_reducible refine ap_sub ?_
    | with_reducible refine ap_lt ?_
    | with_reducible refine ap_le ?_
    | with_reducible refine ap_gt ?_
    | with_reducible refine ap_ge ?_
    | with_reducible refine ap_eqI ?_
    | with_reducible refine ap_neI ?_
    | with_reducible refine ap_eqS ?_
    | with_reducible refine ap_neS ?_
    | with_reducible refine ap_max ?_
    | with_reducible refine ap_max3 ?_
    | with_reducible refine ap_min ?_
    | with_reducible refine ap_abs ?_
    | with_reducible refine ap_int ?_
    | with_reducible refine ap_intB ?_
    | ((with_reducible refine ap_len (ds := ?_) ?_ ?_); rotate_left; · rfl)
    | with_reducible refine ap_slT ?_
    | with_reducible refine ap_addT ?_ ?_
    | with_reducible refine ap_inS ?_
    | with_reducible refine ap_tupT ?_
    | ((with_reducible refine ap_tupL (ds := ?_) ?_ ?_); rotate_left; · rfl)
    | ((with_reducible refine ap_list (ds := ?_) ?_ ?_); rotate_left; · rfl)
    | refine ap_isi (b := true) rfl rfl (by decide +kernel) ?_
    | refine ap_isi (b := false) rfl rfl (by decide +kernel) ?_
    | with_reducible refine et_yes ?_
    | refine And.intro (a := List.length _ ≤ sizeLine) (of_decide_eq_true rfl) ?_
    | refine ap_ixO (i := 0) rfl rfl ?_
    | refine ap_ixO (i := 1) rfl rfl ?_
    | refine ap_ixO (i := 2) rfl rfl ?_
    | refine ap_ixO (i := 0) rfl (atI_nat (j := 0) rfl) ?_
    | with_reducible refine ei_any ?_
    | with_reducible refine ei_rng1 ?_
    | with_reducible refine ei_rng2 ?_
    | with_reducible refine ei_rng3 ?_
    | with_reducible refine ei_enumT ?_
    | with_reducible refine ⟨fun _ => ?_, fun (e : true = false) => nomatch e⟩
    | refine ⟨fun (e : (!true) = true) => Bool.noConfusion (show false = true from e), fun _ => ?_⟩
    | refine ⟨fun _ => ?_, fun (e : (!false) = false) => Bool.noConfusion (show true = false from e)⟩
    | with_reducible refine ⟨fun (e : false = true) => nomatch e, fun _ => ?_⟩
    | (with_reducible refine ⟨_, rfl, ?_⟩))
local macro_rules
  | `(tactic| walk_at "go") => `(tactic| repeat walk_at "go1")

abbrev tabL (one other : List Str) : Dt := .lst ((tabD one other).map .lst)
theorem tabL_get {one other : List Str} {i : Nat} (h : i ≤ one.length) : ((tabD one other).map Dt.lst)[i]? = some (.lst (mrow other.length (tb one other i))) := by
  rw [List.getElem?_map, tabD, mtx_get h]; rfl
section
variable {P : Program} {w : World} {K : PySem.W.Frag} {mg : Str → Option Value} {base : Heap}
def A_fits : Pr := fun δa q => ∃ (one other : List Str) (p a k : Nat), δa = [.im (rowD one), .im (rowD other), .im (tabL one other), .im (.int p), .im (.int a), .im (.int k)] ∧
  p < one.length ∧ a < other.length ∧ q (.im (.bl (fit one other k p a))) δa
set_option maxHeartbeats 4000000 in
theorem ok_fits (T : Tx mg)  {f : Addr} {fd : FuncData} (F : Fn K "fits" s_fits f fd) (hm : mg "fits" = some (.ref f)) (hb : Binds K fd ["one", "other", "most", "place", "at", "left"] []) : CalR P w K mg base CX0 1 "fits" (FD K A_fits) := by
  refine cal_fd 6 [] F hm sc_fits hb .nil rfl rfl (fun δa q hA => by simp only [A_fits] at hA; (repeat obtain ⟨_, hA⟩ := hA); simp only [*, List.length_cons, List.length_nil]) fun cdv Ar outer s H E hG hr => ?_
  have hu : (Ar.deeper (envOfC "fits" (defScope s_fits) s.heap.objs.size f cdv)).units + 65 < cLine := by have := hr.un; omega
  refine ⟨_, (pss_one (ps_ret (pe_and (pe_cmpR (k_eq (K := K) rfl hu) (pe_ix (k_ix (K := K) rfl hu) (pv 0) (pv 3) (fun _ _ => rfl)) (pe_ix (k_ix (K := K) rfl hu) (pv 1) (pv 4) (fun _ _ => rfl)) (nomark _)) (pe_one (pe_cmpR (k_eq (K := K) rfl hu) (pe_ix (k_ix (K := K) rfl hu) (pe_ix (k_ix (K := K) rfl hu) (pv 2) (pe_op (k_add (K := K) rfl) (pv 3) pe_int) (fun _ _ => rfl)) (pe_op (k_add (K := K) rfl) (pv 4) pe_int) (fun _ _ => rfl)) (pe_op op_sub (pv 5) pe_int) (nomark _)))))), fun δa q hA => ?_⟩
  obtain ⟨one, other, p, a, k, rfl, hp, ha, h⟩ := hA
  change Es K _ [_, _, _, _, _, _] _
  obtain ⟨x, h1⟩ : ∃ x, one[p]? = some x := ⟨_, List.getElem?_eq_getElem hp⟩
  obtain ⟨y, h2⟩ : ∃ y, other[a]? = some y := ⟨_, List.getElem?_eq_getElem ha⟩
  have ef : fit one other k p a = (decide (x = y) && decide (tb one other (p + 1) (a + 1) + 1 = k)) := by unfold fit; rw [h1, h2]
  rw [ef] at h
  walk_at "go"
  refine ap_ixO rfl (atM h1) ?_
  walk_at "go"
  refine ap_ixO rfl (atM h2) ?_
  walk_at "go"
  refine ⟨fun e1 => ?_, fun e1 => ?_⟩
  · rw [e1] at h
    walk_at "go"
    refine ap_ixO rfl (atI_nat (j := p + 1) (tabL_get (by omega))) ?_
    walk_at "go"
    refine ap_ixO rfl (atI_nat (j := a + 1) (mrow_get (by omega))) ?_
    walk_at "go"
    have e : decide ((tb one other (p + 1) (a + 1) : Int) = (k : Int) - 1) = decide (tb one other (p + 1) (a + 1) + 1 = k) := by
      rw [decide_eq_decide]; omega
    rw [e]
    exact ⟨_, rfl, h⟩
  · rw [e1] at h
    exact ⟨_, rfl, h⟩
def A_pairs_of : Pr := fun δa q => ∃ one other : List Str, δa = [.im (rowD one), .im (rowD other)] ∧ one.length ≤ 1000 ∧ other.length ≤ 1000 ∧ (∀ z ∈ one, okT 100 z) ∧ (∀ z ∈ other, okT 100 z) ∧ q (.ls ((prs one other).map prD)) δa
set_option maxHeartbeats 4000000 in
theorem ok_pairs_of (T : Tx mg) (c_fits : CalR P w K mg base CX0 1 "fits" (FD K A_fits)) (c_longest_from : CalR P w K mg base CX0 1 "longest_from" (FD K A_longest_from)) {f : Addr} {fd : FuncData} (F : Fn K "pairs_of" s_pairs_of f fd) (hm : mg "pairs_of" = some (.ref f)) (hb : Binds K fd ["one", "other"] []) : CalR P w K mg base CX0 2 "pairs_of" (FD K A_pairs_of) := by
  refine cal_fd 2 [] F hm sc_pairs_of hb .nil rfl rfl (fun δa q hA => by simp only [A_pairs_of] at hA; (repeat obtain ⟨_, hA⟩ := hA); simp only [*, List.length_cons, List.length_nil]) fun cdv Ar outer s H E hG hr => ?_
  have hu : (Ar.deeper (envOfC "pairs_of" (defScope s_pairs_of) s.heap.objs.size f cdv)).units + 65 < cLine := by have := hr.un; omega
  refine ⟨_, (pss_cons (ps_asg (pe_tup (pa_cons (pe_cal c_longest_from hG (hr.mono (by decide)) pass0 (pa_cons (pv 0) (pa_cons (pv 1) pa_nil))) (pa_cons (pe_lst pa_nil) (pa_cons pe_int (pa_cons pe_int pa_nil))))) (k_gsq (K := K) rfl (n := 4) rfl (pgs_cons (pg_name (i := 2) sc_pairs_of.nd rfl (Or.inr rfl)) (pgs_cons (pg_name (i := 3) sc_pairs_of.nd rfl (Or.inl rfl)) (pgs_cons (pg_name (i := 4) sc_pairs_of.nd rfl (Or.inl rfl)) (pgs_cons (pg_name (i := 5) sc_pairs_of.nd rfl (Or.inl rfl)) pgs_nil)))))) (pss_cons (ps_while PassesOwn.never (pt_cmpR op_gt (pe_ix (k_ix (K := K) rfl hu) (pe_ix (k_ix (K := K) rfl hu) (pv 2) (pv 4) (fun _ _ => rfl)) (pv 5) (fun _ _ => rfl)) pe_int (nomark _)) (pss_cons (ps_set (i := 6) sc_pairs_of.nd rfl (Or.inr rfl) (pe_ix (k_ix (K := K) rfl hu) (pe_ix (k_ix (K := K) rfl hu) (pv 2) (pv 4) (fun _ _ => rfl)) (pv 5) (fun _ _ => rfl))) (pss_cons (ps_set (i := 7) sc_pairs_of.nd rfl (Or.inl rfl) (pe_lst pa_nil)) (pss_cons (ps_for PassesOwn.never rfl (pi_range2 rfl T.z_range (pa_cons (pv 4) (pa_cons (pe_callB (k_len (K := K) rfl) (by rfl) T.z_len (by decide +kernel) (pa_cons (pv 0) pa_nil)) pa_nil))) (pg_name (i := 8) sc_pairs_of.nd rfl (Or.inr rfl)) (pss_one (ps_if (pt_cmpR (k_eq (K := K) rfl hu) (pv 7) (pe_lst pa_nil) (nomark _)) (pss_one (ps_setLc (i := 7) (own := [("at", 9)]) rfl sc_pairs_of.nd rfl rfl (sw_true rfl rfl rfl (by decide +kernel)) (pi_range2 rfl T.z_range (pa_cons (pv 5) (pa_cons (pe_callB (k_len (K := K) rfl) (by rfl) T.z_len (by decide +kernel) (pa_cons (pv 1) pa_nil)) pa_nil))) (blkOk_by (N := ["one", "other", "most", "pairs", "here", "there", "left", "good", "place", "at"]) (sc := defScope s_pairs_of) (by decide +kernel)) (fun _ _ _ _ _ => (pg_name (i := 9) sc_pairs_of.nd rfl (Or.inl rfl))) (fun _ _ _ _ _ => (pts_one (pt_val (pe_cal c_fits hG (hr.mono (by decide)) pass0 (pa_cons (pv 0) (pa_cons (pv 1) (pa_cons (pv 2) (pa_cons (pv 8) (pa_cons (pv 9) (pa_cons (pv 6) pa_nil)))))))))) (fun _ _ _ _ _ => (pe_tup (pa_cons (pv 8) (pa_cons (pv 9) pa_nil)))))) pss_nil))) (pss_cons (ps_expr (k_bm (K := K) rfl PySem.F.plainAttrs_list PySem.F.slot_list_append PySem.F.type_list_append mt_append (pv 3) (pa_cons (pe_ix (k_ix (K := K) rfl hu) (pv 7) pe_int (fun _ _ => rfl)) pa_nil))) (pss_one (ps_par (i := 4) (j := 5) rfl sc_pairs_of.nd rfl rfl (by decide) rfl rfl (pa_cons (pe_op (k_add (K := K) rfl) (pe_ix (k_ix (K := K) rfl hu) (pe_ix (k_ix (K := K) rfl hu) (pv 7) pe_int (fun _ _ => rfl)) pe_int (fun _ _ => rfl)) pe_int) (pa_cons (pe_op (k_add (K := K) rfl) (pe_ix (k_ix (K := K) rfl hu) (pe_ix (k_ix (K := K) rfl hu) (pv 7) pe_int (fun _ _ => rfl)) pe_int (fun _ _ => rfl)) pe_int) pa_nil)) rfl))))))) (pss_one (ps_ret (pv 3))))), fun δa q hA => ?_⟩
  obtain ⟨one, other, rfl, hn, hm', o1, o2, h⟩ := hA
  change Es K _ [_, _, Sl.un, Sl.un, Sl.un, Sl.un, Sl.un, Sl.un, Sl.un, Sl.un] _
  refine es_seq (es_par4 ?_)
  walk_at "go"
  refine ⟨one, other, rfl, hn, hm', o1, o2, ⟨trivial, ?_⟩⟩
  walk_at "nrm"
  walk_at "go"
  refine ⟨_, _, _, _, rfl, of_decide_eq_true rfl, of_decide_eq_true rfl, of_decide_eq_true rfl, of_decide_eq_true rfl, ?_⟩
  walk_at "nrm"
  refine es_frz 2 (d := tabL one other) rfl rfl ?_
  walk_at "nrm"
  refine es_seq (es_while (fun k δ' => ∃ (i j : Nat) (acc : List (Nat × Nat)) (x6 x7 x8 : Sl), δ' = [.im (rowD one), .im (rowD other), .im (tabL one other), .ls (acc.map prD), .im (.int i), .im (.int j), x6, x7, x8, .un] ∧
    tb one other i j = k ∧ i ≤ one.length ∧ j ≤ other.length ∧ prs one other = acc ++ prsF one other k i j) (tb one other 0 0) ⟨0, 0, [], _, _, _, rfl, rfl, Nat.zero_le _, Nat.zero_le _, rfl⟩ fun k δ' hI => ?_)
  obtain ⟨i, j, acc, x6, x7, x8, rfl, ht, hi, hj, hp⟩ := hI
  walk_at "go"
  refine ap_ixO rfl (atI_nat (tabL_get hi)) ?_
  walk_at "go"
  refine ap_ixO rfl (atI_nat (mrow_get hj)) ?_
  walk_at "go"
  rw [ht]
  refine ⟨fun q1 => ?_, fun q1 => ?_⟩
  · have q2 := of_decide_eq_true q1
    obtain ⟨k, rfl⟩ : ∃ k', k = k' + 1 := ⟨k - 1, by omega⟩
    obtain ⟨p, a, l, f1, f2, f3, f4, f5, f6, f7, f8⟩ := prs_step ht
    walk_at "go"
    refine ap_ixO rfl (atI_nat (tabL_get hi)) ?_
    walk_at "go"
    refine ap_ixO rfl (atI_nat (mrow_get hj)) ?_
    rw [ht]
    refine ⟨of_decide_eq_true rfl, ?_⟩
    walk_at "nrm"
    walk_at "go"
    refine ⟨of_decide_eq_true rfl, ?_⟩
    walk_at "nrm"
    refine es_seq (es_for ?_)
    walk_at "go"
    refine ⟨_, _, rfl, ⟨by omega, by omega, by rw [List.length_map]; omega, by rw [List.length_map]; omega⟩, ?_⟩
    have en : (((List.map Dt.str one).length : Int) - (i : Int)).toNat = one.length - i := by rw [List.length_map]; omega
    rw [en]
    refine ⟨fun t δ' => ∃ x8, δ' = [.im (rowD one), .im (rowD other), .im (tabL one other), .ls (acc.map prD), .im (.int i), .im (.int j), .im (.int ((k + 1 : Nat) : Int)), .ls ((goodL one other (k + 1) j i t).map prD), x8, .un], [8], ⟨_, rfl⟩, fun t d δ' hd hI => ?_, fun δ' hI => ?_⟩
    · obtain ⟨x8, rfl⟩ := hI
      obtain ⟨ht', rfl⟩ := rngD_get hd
      refine eg_name (of_decide_eq_true rfl) ?_
      walk_at "nrm"
      have e8 : (i : Int) + (t : Int) * 1 = ((i + t : Nat) : Int) := by omega
      rw [e8]
      walk_at "go"
      refine ap_eqD (x := .lst ((goodL one other (k + 1) j i t).map prD)) (y := .lst []) rfl rfl (by simp only [Dt.py, pyAll_pr, Option.map_some]; rfl) rfl (shaped_pr _) shaped_nil ?_
      rw [eqv_nil]
      walk_at "go"
      refine ⟨fun q3 => ?_, fun q3 => ?_⟩
      · have q4 : goodL one other (k + 1) j i t = [] := by simpa using of_decide_eq_true q3
        refine es_asg (ev_lcF ?_)
        walk_at "go"
        refine ⟨_, _, rfl, ⟨by omega, by omega, by rw [List.length_map]; omega, by rw [List.length_map]; omega⟩, ?_⟩
        have em : (((List.map Dt.str other).length : Int) - (j : Int)).toNat = other.length - j := by rw [List.length_map]; omega
        rw [em]
        refine ⟨[9], fun b => fit one other (k + 1) (i + t) (j + b), fun b => prD (i + t, j + b), rfl, rfl, by rw [rngD_len]; exact Nat.lt_of_le_of_lt (show _ ≤ 1000 by omega) (by decide), fun u d hd => ?_, ?_⟩
        · obtain ⟨hu', rfl⟩ := rngD_get hd
          refine eg_name (of_decide_eq_true rfl) ?_
          walk_at "nrm"
          have e9 : (j : Int) + (u : Int) * 1 = ((j + u : Nat) : Int) := by omega
          rw [e9]
          walk_at "go"
          refine ⟨one, other, i + t, j + u, k + 1, rfl, by omega, by omega, trivial, ?_⟩
          walk_at "nrm"
          refine ⟨_, rfl, rfl, fun _ => rfl, fun _ => ?_⟩
          walk_at "go"
          exact ⟨rfl, rfl⟩
        · refine ⟨of_decide_eq_true rfl, ?_⟩
          walk_at "nrm"
          have eg : List.map (fun b => prD (i + t, j + b)) (List.filter (fun b => fit one other (k + 1) (i + t) (j + b)) (List.range (rngD (j : Int) 1 (other.length - j)).length)) = (goodL one other (k + 1) j i (t + 1)).map prD := by
            rw [goodL_next, if_pos q4, fitsAt_eq, rngD_len, List.map_map, List.map_map]
            rfl
          rw [eg]
          exact ⟨_, rfl⟩
      · have q4 : ¬ goodL one other (k + 1) j i t = [] := by simpa using of_decide_eq_false q3
        refine es_next ?_
        rw [goodL_next, if_neg q4]
        exact ⟨_, rfl⟩
    · obtain ⟨x8, rfl⟩ := hI
      rw [rngD_len]
      have eg : goodL one other (k + 1) j i (one.length - i) = (p, a) :: l.map fun a => (p, a) := by
        unfold goodL
        rw [f1]; rfl
      rw [eg, List.map_cons]
      refine es_seq (es_drop (ev_bm (i := 3) rfl rfl ?_))
      walk_at "go"
      refine mt_app rfl rfl rfl ?_ ?_
      · have l1 := prsF_len (one := one) (other := other) (k := tb one other 0 0) rfl
        have l2 := congrArg List.length hp
        unfold prs at l2
        rw [List.length_append, l1] at l2
        have l3 := tb_le1 one other 0 0
        rw [List.length_map]
        exact Nat.lt_of_le_of_lt (show acc.length ≤ 1000 by omega) (by decide)
      · walk_at "nrm"
        walk_at "go"
        refine ⟨_, _, rfl, of_decide_eq_true rfl, of_decide_eq_true rfl, ?_⟩
        walk_at "nrm"
        have ea : List.map prD acc ++ [prD (p, a)] = List.map prD (acc ++ [(p, a)]) := by rw [List.map_append]; rfl
        rw [ea]
        exact ⟨k, Nat.lt_succ_self _, p + 1, a + 1, acc ++ [(p, a)], _, _, _, rfl, f8, by omega, by omega, by rw [hp, f2, List.append_assoc]; rfl⟩
  · have q2 := of_decide_eq_false q1
    have k0 : k = 0 := by omega
    subst k0
    have ep : prs one other = acc := by rw [hp]; simp [prsF]
    rw [ep] at h
    walk_at "go"
    exact ⟨_, rfl, h⟩
end
end Ek

namespace Ek
open PySem PySem.Spec PyProof.Rows L2 StX
local macro_rules
  | `(tactic| walk_at "nrm") => `(tactic| dsimp only [asgS, bks2, bk1, List.set_cons_zero, List.set_cons_succ, List.set_nil, wipeS, Sl.put, List.getElem?_cons_zero, List.getElem?_cons_succ, List.getElem?_nil, Option.getD_some, Option.getD_none, reduceIte, Nat.reduceEqDiff, List.map_nil, List.map_cons, List.nil_append, List.cons_append, List.replicate])
local macro_rules
  | `(tactic| walk_at "go1") => `(tactic| first
    | with_reducible refine es_seq ?_
    | with_reducible refine es_ret ?_
    | with_reducible refine es_retN ?_
    | with_reducible refine es_drop ?_
    | with_reducible refine es_asg ?_
    | with_reducible refine es_next ?_
    | with_reducible refine es_brk ?_
    | with_reducible refine es_cont ?_
    | with_reducible refine es_if ?_
    | with_reducible refine es_par ?_
    | with_reducible refine es_par3 ?_
    | with_reducible refine ev_op ?_
    | with_reducible refine ev_cb ?_
    | with_reducible refine ev_sl ?_
    | with_reducible refine eo_no ?_
    | with_reducible refine eo_pt ?_
    | with_reducible refine ea_cons ?_
    | with_reducible refine ea_nil ?_
    | with_reducible refine ea_star ?_
    | with_reducible refine ev_tup ?_
    | with_reducible refine ev_lst ?_
    | ((with_reducible refine ev_c (d := ?_) ?_ ?_); rotate_left; · rfl)
    | ((with_reducible refine ev_im (d := ?_) ?_ ?_); rotate_left; · rfl)
    | ((with_reducible refine ev_bo (s := ?_) ?_ ?_ ?_); rotate_left; (· rfl); (· rfl))
    | with_reducible refine ev_andV ?_
    | with_reducible refine ev_orV ?_
    | with_reducible refine ev_notV ?_
    | with_reducible refine ev_if ?_
    | with_reducible refine ev_neg ?_
    | with_reducible refine ev_isN ?_
    | with_reducible refine ev_notN ?_
    | with_reducible refine ev_cal2 ?_
    | refine Exists.intro _ (And.intro (a := Ags _ _ _ = some _) rfl (And.intro (a := ndB _ = true) rfl ?_))
    | with_reducible refine ev_chainI (fun _ _ => rfl) ?_
    | with_reducible refine et_test ?_
    | with_reducible refine et_val ?_
    | with_reducible refine et_and ?_
    | with_reducible refine et_or ?_
    | with_reducible refine et_not ?_
    | with_reducible refine ap_addI ?_
    | with_reducible refine ap_sub ?_
    | with_reducible refine ap_lt ?_
    | with_reducible refine ap_le ?_
    | with_reducible refine ap_gt ?_
    | with_reducible refine ap_ge ?_
    | with_reducible refine ap_eqI ?_
    | with_reducible refine ap_neI ?_
    | with_reducible refine ap_eqS ?_
    | with_reducible refine ap_neS ?_
    | with_reducible refine ap_max ?_
    | with_reducible refine ap_max3 ?_
    | with_reducible refine ap_min ?_
    | with_reducible refine ap_abs ?_
    | with_reducible refine ap_int ?_
    | with_reducible refine ap_intB ?_
    | ((with_reducible refine ap_len (ds := ?_) ?_ ?_); rotate_left; · rfl)
    | with_reducible refine ap_slT ?_
    | with_reducible refine ap_addT ?_ ?_
    | with_reducible refine ap_inS ?_
    | with_reducible refine ap_tupT ?_
    | ((with_reducible refine ap_tupL (ds := ?_) ?_ ?_); rotate_left; · rfl)
    | ((with_reducible refine ap_list (ds := ?_) ?_ ?_); rotate_left; · rfl)
    | refine ap_isi (b := true) rfl rfl (by decide +kernel) ?_
    | refine ap_isi (b := false) rfl rfl (by decide +kernel) ?_
    | with_reducible refine et_yes ?_
    | refine And.intro (a := List.length _ ≤ sizeLine) (of_decide_eq_true rfl) ?_
    | refine ap_ixO (i := 0) rfl rfl ?_
    | refine ap_ixO (i := 1) rfl rfl ?_
    | refine ap_ixO (i := 2) rfl rfl ?_
    | refine ap_ixO (i := 0) rfl (atI_nat (j := 0) rfl) ?_
    | with_reducible refine ei_any ?_
    | with_reducible refine ei_rng1 ?_
    | with_reducible refine ei_rng2 ?_
    | with_reducible refine ei_rng3 ?_
    | with_reducible refine ei_enumT ?_
    | with_reducible refine ⟨fun _ => ?_, fun (e : true = false) => nomatch e⟩
    | refine ⟨fun (e : (!true) = true) => Bool.noConfusion (show false = true from e), fun _ => ?_⟩
    | refine ⟨fun _ => ?_, fun (e : (!false) = false) => Bool.noConfusion (show true = false from e)⟩
    | with_reducible refine ⟨fun (e : false = true) => nomatch e, fun _ => ?_⟩
    | (with_reducible refine ⟨_, rfl, ?_⟩))
local macro_rules
  | `(tactic| walk_at "go") => `(tactic| repeat walk_at "go1")

def mostR (one other : List Str) (t : Nat) : List Dt := (List.range (t + 1)).map fun s => .lst (mrow other.length (tb one other (one.length - s)))
theorem mostR_len {one other : List Str} {t : Nat} : (mostR one other t).length = t + 1 := by unfold mostR; rw [List.length_map, List.length_range]
theorem mrow_rev {m : Nat} {f : Nat → Nat} : ((List.range (m + 1)).map fun v => Dt.int (f (m - v))).reverse = mrow m f := by
  rw [rev_range]
  unfold mrow
  apply List.map_congr_left
  intro i hi
  have := List.mem_range.mp hi
  have : m - (m - i) = i := by omega
  rw [this]
section
variable {P : Program} {w : World} {K : PySem.W.Frag} {mg : Str → Option Value} {base : Heap}
def A__law_most : Pr := fun δa q => ∃ one other : List Str, δa = [.im (rowD one), .im (rowD other)] ∧ one.length ≤ 1000 ∧ other.length ≤ 1000 ∧ q (.ls ((tabD one other).map .lst)) δa
set_option maxHeartbeats 4000000 in
theorem ok__law_most (T : Tx mg)  {f : Addr} {fd : FuncData} (F : Fn K "_law_most" s__law_most f fd) (hm : mg "_law_most" = some (.ref f)) (hb : Binds K fd ["one", "other"] []) : CalR P w K mg base CX0 1 "_law_most" (FD K A__law_most) := by
  refine cal_fd 2 [] F hm sc__law_most hb .nil rfl rfl (fun δa q hA => by simp only [A__law_most] at hA; (repeat obtain ⟨_, hA⟩ := hA); simp only [*, List.length_cons, List.length_nil]) fun cdv Ar outer s H E hG hr => ?_
  have hu : (Ar.deeper (envOfC "_law_most" (defScope s__law_most) s.heap.objs.size f cdv)).units + 65 < cLine := by have := hr.un; omega
  refine ⟨_, (pss_cons (ps_set (i := 2) sc__law_most.nd rfl (Or.inl rfl) (pe_lst (pa_cons (pe_op (k_mul (K := K) rfl) (pe_lst (pa_cons pe_int pa_nil)) (pe_op (k_add (K := K) rfl) (pe_callB (k_len (K := K) rfl) (by rfl) T.z_len (by decide +kernel) (pa_cons (pv 1) pa_nil)) pe_int)) pa_nil))) (pss_cons (ps_for PassesOwn.never rfl (k_iany (K := K) rfl (k_rev (K := K) rfl (pv 0))) (pg_name (i := 3) sc__law_most.nd rfl (Or.inl rfl)) (pss_cons (ps_par (i := 4) (j := 5) rfl sc__law_most.nd rfl rfl (by decide) rfl rfl (pa_cons (pe_lst (pa_cons pe_int pa_nil)) (pa_cons (pe_ix (k_ix (K := K) rfl hu) (pv 2) (pe_un un_neg pe_int) (fun _ _ => rfl)) pa_nil)) rfl) (pss_cons (ps_for PassesOwn.never rfl (pi_range3 rfl T.z_range (pa_cons (pe_op op_sub (pe_callB (k_len (K := K) rfl) (by rfl) T.z_len (by decide +kernel) (pa_cons (pv 1) pa_nil)) pe_int) (pa_cons (pe_un un_neg pe_int) (pa_cons (pe_un un_neg pe_int) pa_nil)))) (pg_name (i := 6) sc__law_most.nd rfl (Or.inl rfl)) (pss_cons (ps_set (i := 7) sc__law_most.nd rfl (Or.inl rfl) (pe_ifExp (pt_cmpR (k_eq (K := K) rfl hu) (pe_ix (k_ix (K := K) rfl hu) (pv 1) (pv 6) (fun _ _ => rfl)) (pv 3) (nomark _)) (pe_op (k_add (K := K) rfl) (pe_ix (k_ix (K := K) rfl hu) (pv 5) (pe_op (k_add (K := K) rfl) (pv 6) pe_int) (fun _ _ => rfl)) pe_int) pe_int)) (pss_one (ps_expr (k_bm (K := K) rfl PySem.F.plainAttrs_list PySem.F.slot_list_append PySem.F.type_list_append mt_append (pv 4) (pa_cons (pe_callB (call_max3' rfl) (by rfl) T.z_max (by decide +kernel) (pa_cons (pv 7) (pa_cons (pe_ix (k_ix (K := K) rfl hu) (pv 5) (pv 6) (fun _ _ => rfl)) (pa_cons (pe_ix (k_ix (K := K) rfl hu) (pv 4) (pe_un un_neg pe_int) (fun _ _ => rfl)) pa_nil)))) pa_nil)))))) (pss_one (ps_expr (k_bm (K := K) rfl PySem.F.plainAttrs_list PySem.F.slot_list_append PySem.F.type_list_append mt_append (pv 2) (pa_cons (k_rev (K := K) rfl (pv 4)) pa_nil))))))) (pss_one (ps_ret (k_rev (K := K) rfl (pv 2)))))), fun δa q hA => ?_⟩
  obtain ⟨one, other, rfl, hn, hm', h⟩ := hA
  change Es K _ [_, _, Sl.un, Sl.un, Sl.un, Sl.un, Sl.un, Sl.un] _
  walk_at "go"
  refine ap_mulL (xs := [.int 0]) rfl ⟨by omega, by simp only [List.length_map]; omega⟩ ?_ ?_
  · rw [List.length_map]
    show 1 * ((other.length : Int) + 1).toNat ≤ sizeLine
    exact Nat.le_trans (show _ ≤ 1001 by omega) (by decide)
  rw [List.length_map, rep_row]
  walk_at "go"
  refine ⟨of_decide_eq_true rfl, ?_⟩
  have e0 : [Dt.lst (mrow other.length fun _ => 0)] = mostR one other 0 := by
    unfold mostR
    have : tb one other (one.length - 0) = fun _ => 0 := by
      funext j; exact tb_end1 (by omega)
    show _ = [Dt.lst (mrow other.length (tb one other (one.length - 0)))]
    rw [this]
  rw [e0]
  walk_at "nrm"
  refine es_seq (es_for ?_)
  walk_at "go"
  refine ev_revT ?_
  walk_at "go"
  refine ⟨fun t δ' => ∃ x3 x4 x5 x6 x7, δ' = [.im (rowD one), .im (rowD other), .ls (mostR one other t), x3, x4, x5, x6, x7], [3], ⟨_, _, _, _, _, rfl⟩, fun t d δ' hd hI => ?_, fun δ' hI => ?_⟩
  · obtain ⟨x3, x4, x5, x6, x7, rfl⟩ := hI
    rw [← List.map_reverse] at hd
    obtain ⟨x, hx, rfl⟩ := get_map hd
    have ht : t < one.length := by
      have := (List.getElem?_eq_some_iff.mp hx).1
      rw [List.length_reverse] at this
      exact this
    rw [List.getElem?_reverse ht] at hx
    refine eg_name (of_decide_eq_true rfl) ?_
    walk_at "nrm"
    walk_at "go"
    refine ap_ixO (i := -1) rfl (atI_last (k := t) mostR_len (range_get (Nat.le_refl _))) ?_
    walk_at "go"
    refine ⟨_, _, rfl, of_decide_eq_true rfl, of_decide_eq_true rfl, ?_⟩
    walk_at "nrm"
    have ei : one.length - t = one.length - 1 - t + 1 := by omega
    rw [ei]
    have hx' : one[one.length - 1 - t]? = some x := hx
    generalize hi0 : one.length - 1 - t = i0 at hx' ⊢
    refine es_seq (es_for ?_)
    walk_at "go"
    refine ⟨_, _, _, other.length, rfl, ?_, ?_⟩
    · have := RgC.neg (i := ((List.map Dt.str other).length : Int) - 1) (j := -1) (by rw [List.length_map]; omega) (by rw [List.length_map]; omega) (by decide) (by decide)
      rw [show (((List.map Dt.str other).length : Int) - 1 - -1).toNat = other.length by rw [List.length_map]; omega] at this
      exact this
    have er : [Dt.int 0] = (List.range (0 + 1)).map fun v => Dt.int (tb one other i0 (other.length - v)) := by
      have : tb one other i0 (other.length - 0) = 0 := tb_end2 (by omega)
      show _ = [Dt.int (tb one other i0 (other.length - 0))]
      rw [this]; rfl
    rw [er]
    refine ⟨fun u δ' => ∃ x6 x7, δ' = [.im (rowD one), .im (rowD other), .ls (mostR one other t), .im (.str x), .ls ((List.range (u + 1)).map fun v => Dt.int (tb one other i0 (other.length - v))), .im (.lst (mrow other.length (tb one other (i0 + 1)))), x6, x7], [6], ⟨_, _, rfl⟩, fun u d δ' hd hI => ?_, fun δ' hI => ?_⟩
    · obtain ⟨x6, x7, rfl⟩ := hI
      obtain ⟨hu', rfl⟩ := rngD_get hd
      have e2 : ((List.map Dt.str other).length : Int) - 1 + (u : Int) * -1 = ((other.length - 1 - u : Nat) : Int) := by rw [List.length_map]; omega
      rw [e2]
      refine eg_name (of_decide_eq_true rfl) ?_
      walk_at "nrm"
      obtain ⟨y, hy⟩ : ∃ y, other[other.length - 1 - u]? = some y := ⟨_, List.getElem?_eq_getElem (by omega)⟩
      generalize hj0 : other.length - 1 - u = j0 at hy ⊢
      have st := tb_step hx' hy
      have hjm : j0 < other.length := by omega
      refine es_seq (es_asg (ev_cut0 (.int ((if x = y then 1 + tb one other (i0 + 1) (j0 + 1) else 0 : Nat) : Int)) (ev_if ?_) ?_))
      · walk_at "go"
        refine ap_ixO rfl (atM hy) ?_
        walk_at "go"
        refine ⟨fun q1 => ?_, fun q1 => ?_⟩
        · have q2 : x = y := (of_decide_eq_true q1).symm
          rw [if_pos q2]
          walk_at "go"
          refine ap_ixO rfl (atI_nat (j := j0 + 1) (mrow_get (by omega))) ?_
          walk_at "go"
          refine ⟨?_, rfl⟩
          have : ((tb one other (i0 + 1) (j0 + 1) : Nat) : Int) + 1 = ((1 + tb one other (i0 + 1) (j0 + 1) : Nat) : Int) := by omega
          rw [this]
        · have q2 : ¬ x = y := fun e => of_decide_eq_false q1 e.symm
          rw [if_neg q2]
          walk_at "go"
          exact ⟨rfl, rfl⟩
      · refine ⟨of_decide_eq_true rfl, ?_⟩
        walk_at "nrm"
        refine es_drop (ev_bm (i := 4) rfl rfl ?_)
        walk_at "go"
        refine ap_ixO rfl (atI_nat (j := j0) (mrow_get (by omega))) ?_
        walk_at "go"
        refine ap_ixO (i := -1) rfl (atI_last (k := u) (by rw [List.length_map, List.length_range]) (range_get (Nat.le_refl _))) ?_
        walk_at "go"
        have em : max (max ((if x = y then 1 + tb one other (i0 + 1) (j0 + 1) else 0 : Nat) : Int) ((tb one other (i0 + 1) j0 : Nat) : Int)) ((tb one other i0 (other.length - u) : Nat) : Int) = ((tb one other i0 (other.length - (u + 1)) : Nat) : Int) := by
          have e1 : other.length - u = j0 + 1 := by omega
          have e2 : other.length - (u + 1) = j0 := by omega
          rw [e1, e2, st]
          omega
        rw [em]
        refine mt_app rfl rfl rfl (by rw [List.length_map, List.length_range]; exact Nat.lt_of_le_of_lt (show _ ≤ 1001 by omega) (by decide)) ?_
        have ea : ((List.range (u + 1)).map fun v => Dt.int (tb one other i0 (other.length - v))) ++ [Dt.int ((tb one other i0 (other.length - (u + 1)) : Nat) : Int)] = (List.range (u + 1 + 1)).map fun v => Dt.int (tb one other i0 (other.length - v)) := by
          rw [List.range_succ (n := u + 1), List.map_append]; rfl
        rw [ea]
        exact ⟨_, _, rfl⟩
    · obtain ⟨x6, x7, rfl⟩ := hI
      rw [rngD_len]
      refine es_drop (ev_bm (i := 2) rfl rfl ?_)
      walk_at "go"
      refine ev_revL ?_
      walk_at "go"
      rw [mrow_rev]
      walk_at "go"
      refine mt_app rfl rfl rfl (by rw [mostR_len]; exact Nat.lt_of_le_of_lt (show _ ≤ 1001 by omega) (by decide)) ?_
      have ea : mostR one other t ++ [Dt.lst (mrow other.length (tb one other i0))] = mostR one other (t + 1) := by
        unfold mostR
        rw [List.range_succ (n := t + 1), List.map_append]
        have : one.length - (t + 1) = i0 := by omega
        simp only [List.map_cons, List.map_nil, this]
      rw [ea]
      exact ⟨_, _, _, _, _, rfl⟩
  · obtain ⟨x3, x4, x5, x6, x7, rfl⟩ := hI
    rw [List.length_reverse, List.length_map]
    walk_at "go"
    refine ev_revL ?_
    walk_at "go"
    have ee : (mostR one other one.length).reverse = (tabD one other).map .lst := by
      unfold mostR
      rw [rev_range]
      unfold tabD mtx
      rw [List.map_map]
      apply List.map_congr_left
      intro i hi
      have := List.mem_range.mp hi
      have : one.length - (one.length - i) = i := by omega
      simp only [Function.comp, this]
    rw [ee]
    exact ⟨_, rfl, h⟩
end
end Ek

namespace Ek
open PySem PySem.Spec PyProof.Rows L2 StX
local macro_rules
  | `(tactic| walk_at "nrm") => `(tactic| dsimp only [asgS, bks2, bk1, List.set_cons_zero, List.set_cons_succ, List.set_nil, wipeS, Sl.put, List.getElem?_cons_zero, List.getElem?_cons_succ, List.getElem?_nil, Option.getD_some, Option.getD_none, reduceIte, Nat.reduceEqDiff, List.map_nil, List.map_cons, List.nil_append, List.cons_append, List.replicate])
local macro_rules
  | `(tactic| walk_at "go1") => `(tactic| first
    | with_reducible refine es_seq ?_
    | with_reducible refine es_ret ?_
    | with_reducible refine es_retN ?_
    | with_reducible refine es_drop ?_
    | with_reducible refine es_asg ?_
    | with_reducible refine es_next ?_
    | with_reducible refine es_brk ?_
    | with_reducible refine es_cont ?_
    | with_reducible refine es_if ?_
    | with_reducible refine es_par ?_
    | with_reducible refine es_par3 ?_
    | with_reducible refine ev_op ?_
    | with_reducible refine ev_cb ?_
    | with_reducible refine ev_sl ?_
    | with_reducible refine eo_no ?_
    | with_reducible refine eo_pt ?_
    | with_reducible refine ea_cons ?_
    | with_reducible refine ea_nil ?_
    | with_reducible refine ea_star ?_
    | with_reducible refine ev_tup ?_
    | with_reducible refine ev_lst ?_
    | ((with_reducible refine ev_c (d := ?_) ?_ ?_); rotate_left; · rfl)
    | ((with_reducible refine ev_im (d := ?_) ?_ ?_); rotate_left; · rfl)
    | ((with_reducible refine ev_bo (s := ?_) ?_ ?_ ?_); rotate_left; (· rfl); (· rfl))
    | with_reducible refine ev_andV ?_
    | with_reducible refine ev_orV ?_
    | with_reducible refine ev_notV ?_
    | with_reducible refine ev_if ?_
    | with_reducible refine ev_neg ?_
    | with_reducible refine ev_isN ?_
    | with_reducible refine ev_notN ?_
    | with_reducible refine ev_cal2 ?_
    | refine Exists.intro _ (And.intro (a := Ags _ _ _ = some _) rfl (And.intro (a := ndB _ = true) rfl ?_))
    | with_reducible refine ev_chainI (fun _ _ => rfl) ?_
    | with_reducible refine et_test ?_
    | with_reducible refine et_val ?_
    | with_reducible refine et_and ?_
    | with_reducible refine et_or ?_
    | with_reducible refine et_not ?_
    | with_reducible refine ap_addI ?_
    | with_reducible refine ap_sub ?_
    | with_reducible refine ap_lt ?_
    | with_reducible refine ap_le ?_
    | with_reducible refine ap_gt ?_
    | with_reducible refine ap_ge ?_
    | with_reducible refine ap_eqI ?_
    | with_reducible refine ap_neI ?_
    | with_reducible refine ap_eqS ?_
    | with_reducible refine ap_neS ?_
    | with_reducible refine ap_max ?_
    | with_reducible refine ap_max3 ?_
    | with_reducible refine ap_min ?_
    | with_reducible refine ap_abs ?_
    | with_reducible refine ap_int ?_
    | with_reducible refine ap_intB ?_
    | ((with_reducible refine ap_len (ds := ?_) ?_ ?_); rotate_left; · rfl)
    | with_reducible refine ap_slT ?_
    | with_reducible refine ap_addT ?_ ?_
    | with_reducible refine ap_inS ?_
    | with_reducible refine ap_tupT ?_
    | ((with_reducible refine ap_tupL (ds := ?_) ?_ ?_); rotate_left; · rfl)
    | ((with_reducible refine ap_list (ds := ?_) ?_ ?_); rotate_left; · rfl)
    | refine ap_isi (b := true) rfl rfl (by decide +kernel) ?_
    | refine ap_isi (b := false) rfl rfl (by decide +kernel) ?_
    | with_reducible refine et_yes ?_
    | refine And.intro (a := List.length _ ≤ sizeLine) (of_decide_eq_true rfl) ?_
    | refine ap_ixO (i := 0) rfl rfl ?_
    | refine ap_ixO (i := 1) rfl rfl ?_
    | refine ap_ixO (i := 2) rfl rfl ?_
    | refine ap_ixO (i := 0) rfl (atI_nat (j := 0) rfl) ?_
    | with_reducible refine ei_any ?_
    | with_reducible refine ei_rng1 ?_
    | with_reducible refine ei_rng2 ?_
    | with_reducible refine ei_rng3 ?_
    | with_reducible refine ei_enumT ?_
    | with_reducible refine ⟨fun _ => ?_, fun (e : true = false) => nomatch e⟩
    | refine ⟨fun (e : (!true) = true) => Bool.noConfusion (show false = true from e), fun _ => ?_⟩
    | refine ⟨fun _ => ?_, fun (e : (!false) = false) => Bool.noConfusion (show true = false from e)⟩
    | with_reducible refine ⟨fun (e : false = true) => nomatch e, fun _ => ?_⟩
    | (with_reducible refine ⟨_, rfl, ?_⟩))
local macro_rules
  | `(tactic| walk_at "go") => `(tactic| repeat walk_at "go1")

abbrev natD (a : Nat) : Dt := .int (a : Int)
theorem prs_len_le (one other : List Str) : (prs one other).length ≤ one.length := by
  have l1 := prsF_len (one := one) (other := other) (k := tb one other 0 0) (i := 0) (j := 0) rfl
  have l3 := tb_le1 one other 0 0
  unfold prs
  omega
section
variable {P : Program} {w : World} {K : PySem.W.Frag} {mg : Str → Option Value} {base : Heap}
def A__law_pairs : Pr := fun δa q => ∃ one other : List Str, δa = [.im (rowD one), .im (rowD other)] ∧ one.length ≤ 1000 ∧ other.length ≤ 1000 ∧ q (.ls ((prs one other).map prD)) δa
set_option maxHeartbeats 4000000 in
theorem ok__law_pairs (T : Tx mg) (c__law_most : CalR P w K mg base CX0 1 "_law_most" (FD K A__law_most)) {f : Addr} {fd : FuncData} (F : Fn K "_law_pairs" s__law_pairs f fd) (hm : mg "_law_pairs" = some (.ref f)) (hb : Binds K fd ["one", "other"] []) : CalR P w K mg base CX0 2 "_law_pairs" (FD K A__law_pairs) := by
  refine cal_fd 2 [] F hm sc__law_pairs hb .nil rfl rfl (fun δa q hA => by simp only [A__law_pairs] at hA; (repeat obtain ⟨_, hA⟩ := hA); simp only [*, List.length_cons, List.length_nil]) fun cdv Ar outer s H E hG hr => ?_
  have hu : (Ar.deeper (envOfC "_law_pairs" (defScope s__law_pairs) s.heap.objs.size f cdv)).units + 65 < cLine := by have := hr.un; omega
  refine ⟨_, (pss_cons (ps_asg (pe_tup (pa_cons (pe_cal c__law_most hG (hr.mono (by decide)) pass0 (pa_cons (pv 0) (pa_cons (pv 1) pa_nil))) (pa_cons (pe_lst pa_nil) (pa_cons pe_int (pa_cons pe_int pa_nil))))) (k_gsq (K := K) rfl (n := 4) rfl (pgs_cons (pg_name (i := 2) sc__law_pairs.nd rfl (Or.inr rfl)) (pgs_cons (pg_name (i := 3) sc__law_pairs.nd rfl (Or.inl rfl)) (pgs_cons (pg_name (i := 4) sc__law_pairs.nd rfl (Or.inl rfl)) (pgs_cons (pg_name (i := 5) sc__law_pairs.nd rfl (Or.inl rfl)) pgs_nil)))))) (pss_cons (ps_for PassesOwn.never rfl (pi_range1 rfl T.z_range (pa_cons (pe_ix (k_ix (K := K) rfl hu) (pe_ix (k_ix (K := K) rfl hu) (pv 2) pe_int (fun _ _ => rfl)) pe_int (fun _ _ => rfl)) pa_nil)) (pg_name (i := 6) sc__law_pairs.nd rfl (Or.inl rfl)) (pss_cons (ps_set (i := 7) sc__law_pairs.nd rfl (Or.inr rfl) (pe_op op_sub (pe_ix (k_ix (K := K) rfl hu) (pe_ix (k_ix (K := K) rfl hu) (pv 2) (pv 4) (fun _ _ => rfl)) (pv 5) (fun _ _ => rfl)) pe_int)) (pss_cons (ps_for PassesOwn.never rfl (pi_range2 rfl T.z_range (pa_cons (pv 4) (pa_cons (pe_callB (k_len (K := K) rfl) (by rfl) T.z_len (by decide +kernel) (pa_cons (pv 0) pa_nil)) pa_nil))) (pg_name (i := 8) sc__law_pairs.nd rfl (Or.inr rfl)) (pss_cons (ps_setLc (i := 9) (own := [("to", 10)]) rfl sc__law_pairs.nd rfl rfl (sw_true rfl rfl rfl (by decide +kernel)) (pi_range2 rfl T.z_range (pa_cons (pv 5) (pa_cons (pe_callB (k_len (K := K) rfl) (by rfl) T.z_len (by decide +kernel) (pa_cons (pv 1) pa_nil)) pa_nil))) (blkOk_by (N := ["one", "other", "most", "found", "place", "at", "lap", "wanted", "here", "fits_v", "to"]) (sc := defScope s__law_pairs) (by decide +kernel)) (fun _ _ _ _ _ => (pg_name (i := 10) sc__law_pairs.nd rfl (Or.inl rfl))) (fun _ _ _ _ _ => (pts_one (PW.pt (pw_and (pt_cmpR (k_eq (K := K) rfl hu) (pe_ix (k_ix (K := K) rfl hu) (pv 1) (pv 10) (fun _ _ => rfl)) (pe_ix (k_ix (K := K) rfl hu) (pv 0) (pv 8) (fun _ _ => rfl)) (nomark _)) (pw_and1 (pt_cmpR (k_eq (K := K) rfl hu) (pe_ix (k_ix (K := K) rfl hu) (pe_ix (k_ix (K := K) rfl hu) (pv 2) (pe_op (k_add (K := K) rfl) (pv 8) pe_int) (fun _ _ => rfl)) (pe_op (k_add (K := K) rfl) (pv 10) pe_int) (fun _ _ => rfl)) (pv 7) (nomark _))))))) (fun _ _ _ _ _ => (pv 10))) (pss_one (ps_if (pt_cmpR (k_ne (K := K) rfl hu) (pv 9) (pe_lst pa_nil) (nomark _)) (pss_one ps_break) pss_nil)))) (pss_cons (ps_expr (k_bm (K := K) rfl PySem.F.plainAttrs_list PySem.F.slot_list_append PySem.F.type_list_append mt_append (pv 3) (pa_cons (pe_tup (pa_cons (pv 8) (pa_cons (pe_ix (k_ix (K := K) rfl hu) (pv 9) pe_int (fun _ _ => rfl)) pa_nil))) pa_nil))) (pss_one (ps_par (i := 4) (j := 5) rfl sc__law_pairs.nd rfl rfl (by decide) rfl rfl (pa_cons (pe_op (k_add (K := K) rfl) (pv 8) pe_int) (pa_cons (pe_op (k_add (K := K) rfl) (pe_ix (k_ix (K := K) rfl hu) (pv 9) pe_int (fun _ _ => rfl)) pe_int) pa_nil)) rfl)))))) (pss_one (ps_ret (pv 3))))), fun δa q hA => ?_⟩
  obtain ⟨one, other, rfl, hn, hm', h⟩ := hA
  change Es K _ [_, _, Sl.un, Sl.un, Sl.un, Sl.un, Sl.un, Sl.un, Sl.un, Sl.un, Sl.un] _
  refine es_seq (es_par4 ?_)
  walk_at "go"
  refine ⟨one, other, rfl, hn, hm', ⟨trivial, ?_⟩⟩
  walk_at "nrm"
  walk_at "go"
  refine ⟨_, _, _, _, rfl, of_decide_eq_true rfl, of_decide_eq_true rfl, of_decide_eq_true rfl, of_decide_eq_true rfl, ?_⟩
  walk_at "nrm"
  refine es_frz 2 (d := tabL one other) rfl rfl ?_
  walk_at "nrm"
  refine es_seq (es_for ?_)
  walk_at "go"
  refine ap_ixO rfl (atI_nat (j := 0) (tabL_get (Nat.zero_le _))) ?_
  walk_at "go"
  refine ap_ixO rfl (atI_nat (j := 0) (mrow_get (Nat.zero_le _))) ?_
  walk_at "go"
  have tl := tb_le1 one other 0 0
  refine ⟨by omega, by omega, ?_⟩
  rw [Int.toNat_natCast]
  refine ⟨fun t δ' => ∃ (i j : Nat) (acc : List (Nat × Nat)) (x6 x7 x8 x9 : Sl), δ' = [.im (rowD one), .im (rowD other), .im (tabL one other), .ls (acc.map prD), .im (natD i), .im (natD j), x6, x7, x8, x9, .un] ∧
    tb one other i j = tb one other 0 0 - t ∧ i ≤ one.length ∧ j ≤ other.length ∧ acc.length = t ∧ prs one other = acc ++ prsF one other (tb one other 0 0 - t) i j, [6], ⟨0, 0, [], _, _, _, _, rfl, rfl, Nat.zero_le _, Nat.zero_le _, rfl, rfl⟩, fun t d δ' hd hI => ?_, fun δ' hI => ?_⟩
  · obtain ⟨i, j, acc, x6, x7, x8, x9, rfl, ht, hi, hj, ha, hp⟩ := hI
    obtain ⟨ht', rfl⟩ := rngD_get hd
    obtain ⟨k, hk⟩ : ∃ k, tb one other 0 0 - t = k + 1 := ⟨tb one other 0 0 - t - 1, by omega⟩
    rw [hk] at ht hp
    obtain ⟨p, a, l, f1, f2, f3, f4, f5, f6, f7, f8⟩ := prs_step ht
    refine eg_name (of_decide_eq_true rfl) ?_
    walk_at "nrm"
    walk_at "go"
    refine ap_ixO rfl (atI_nat (tabL_get hi)) ?_
    walk_at "go"
    refine ap_ixO rfl (atI_nat (mrow_get hj)) ?_
    walk_at "go"
    rw [ht]
    refine ⟨of_decide_eq_true rfl, ?_⟩
    walk_at "nrm"
    refine es_seq (es_for ?_)
    walk_at "go"
    refine ⟨_, _, rfl, ⟨by omega, by omega, by rw [List.length_map]; omega, by rw [List.length_map]; omega⟩, ?_⟩
    have en : (((List.map Dt.str one).length : Int) - (i : Int)).toNat = one.length - i := by rw [List.length_map]; omega
    rw [en]
    refine ⟨fun u δ' => firstF one other (k + 1) j i u = none ∧ ∃ x6 x8 x9, δ' = [.im (rowD one), .im (rowD other), .im (tabL one other), .ls (acc.map prD), .im (natD i), .im (natD j), x6, .im (.int (((k + 1 : Nat) : Int) - 1)), x8, x9, .un], [8], ⟨rfl, _, _, _, rfl⟩, fun u d δ' hd hI => ?_, fun δ' hI => ?_⟩
    · obtain ⟨hF, x6, x8, x9, rfl⟩ := hI
      obtain ⟨hu', rfl⟩ := rngD_get hd
      refine eg_name (of_decide_eq_true rfl) ?_
      walk_at "nrm"
      have e8 : (i : Int) + (u : Int) * 1 = ((i + u : Nat) : Int) := by omega
      rw [e8]
      obtain ⟨x, hx⟩ : ∃ x, one[i + u]? = some x := ⟨_, List.getElem?_eq_getElem (by omega)⟩
      refine es_seq (es_asg (ev_lcF ?_))
      walk_at "go"
      refine ⟨_, _, rfl, ⟨by omega, by omega, by rw [List.length_map]; omega, by rw [List.length_map]; omega⟩, ?_⟩
      have em : (((List.map Dt.str other).length : Int) - (j : Int)).toNat = other.length - j := by rw [List.length_map]; omega
      rw [em]
      refine ⟨[10], fun b => fit one other (k + 1) (i + u) (j + b), fun b => natD (j + b), rfl, rfl, by rw [rngD_len]; exact Nat.lt_of_le_of_lt (show _ ≤ 1000 by omega) (by decide), fun v d hd => ?_, ?_⟩
      · obtain ⟨hv', rfl⟩ := rngD_get hd
        refine eg_name (of_decide_eq_true rfl) ?_
        walk_at "nrm"
        have e9 : (j : Int) + (v : Int) * 1 = ((j + v : Nat) : Int) := by omega
        rw [e9]
        obtain ⟨y, hy⟩ : ∃ y, other[j + v]? = some y := ⟨_, List.getElem?_eq_getElem (by omega)⟩
        have ef : fit one other (k + 1) (i + u) (j + v) = (decide (x = y) && decide (tb one other (i + u + 1) (j + v + 1) + 1 = k + 1)) := by unfold fit; rw [hx, hy]
        walk_at "go"
        refine ap_ixO rfl (atM hy) ?_
        walk_at "go"
        refine ap_ixO rfl (atM hx) ?_
        walk_at "go"
        refine ⟨fun q1 => ?_, fun q1 => ?_⟩
        · have q2 : x = y := (of_decide_eq_true q1).symm
          walk_at "go"
          refine ap_ixO rfl (atI_nat (j := i + u + 1) (tabL_get (by omega))) ?_
          walk_at "go"
          refine ap_ixO rfl (atI_nat (j := j + v + 1) (mrow_get (by omega))) ?_
          walk_at "go"
          have e : decide ((tb one other (i + u + 1) (j + v + 1) : Int) = ((k + 1 : Nat) : Int) - 1) = fit one other (k + 1) (i + u) (j + v) := by
            rw [ef, decide_eq_true q2, Bool.true_and, decide_eq_decide]; omega
          refine ⟨e, fun _ => rfl, fun _ => ?_⟩
          walk_at "go"
          exact ⟨rfl, rfl⟩
        · have q2 : ¬ x = y := fun e => of_decide_eq_false q1 e.symm
          refine ⟨?_, fun _ => rfl, fun e => nomatch e⟩
          rw [ef, decide_eq_false q2]; rfl
      · have eg : List.map (fun b => natD (j + b)) (List.filter (fun b => fit one other (k + 1) (i + u) (j + b)) (List.range (rngD (j : Int) 1 (other.length - j)).length)) = (fitsAt one other (k + 1) (i + u) j).map fun a : Nat => Dt.int (a : Int) := by
          rw [fitsAt_eq, rngD_len, List.map_map]
          rfl
        rw [eg]
        refine ⟨of_decide_eq_true rfl, ?_⟩
        walk_at "nrm"
        walk_at "go"
        refine ap_neD (x := .lst ((fitsAt one other (k + 1) (i + u) j).map fun a : Nat => Dt.int (a : Int))) (y := .lst []) rfl rfl (by simp only [Dt.py, pyAll_int, Option.map_some]; rfl) rfl (shaped_int _) shaped_nil ?_
        rw [eqv_nil]
        walk_at "go"
        refine ⟨fun q3 => ?_, fun q3 => ?_⟩
        · have q4 : ¬ fitsAt one other (k + 1) (i + u) j = [] := by simpa using q3
          have fs : firstF one other (k + 1) j i (u + 1) = some (i + u, fitsAt one other (k + 1) (i + u) j) := by
            rw [firstF_snoc, hF]
            simp [q4]
          have fe : i + u = p ∧ fitsAt one other (k + 1) (i + u) j = a :: l := by
            have mono : ∀ m, u + 1 ≤ m → firstF one other (k + 1) j i m = some (i + u, fitsAt one other (k + 1) (i + u) j) := fun m hm => by
              induction m with
              | zero => omega
              | succ m ih =>
                by_cases e : u + 1 = m + 1
                · rw [← e]; exact fs
                · rw [firstF_snoc, ih (by omega)]
            rw [mono _ (by omega)] at f1
            simp only [Option.some.injEq, Prod.mk.injEq] at f1
            exact f1
          obtain ⟨e1, e2⟩ := fe
          rw [e1, ← e1, e2, e1]
          refine es_brk ?_
          refine es_seq (es_drop (ev_bm (i := 3) rfl rfl ?_))
          walk_at "go"
          refine mt_app rfl rfl rfl ?_ ?_
          · rw [List.length_map]
            exact Nat.lt_of_le_of_lt (show acc.length ≤ 1000 by omega) (by decide)
          · walk_at "nrm"
            walk_at "go"
            refine ⟨_, _, rfl, of_decide_eq_true rfl, of_decide_eq_true rfl, ?_⟩
            walk_at "nrm"
            have ea : List.map prD acc ++ [prD (p, a)] = List.map prD (acc ++ [(p, a)]) := by rw [List.map_append]; rfl
            have hk2 : tb one other 0 0 - (t + 1) = k := by omega
            rw [hk2]
            rw [ea]
            exact ⟨p + 1, a + 1, acc ++ [(p, a)], _, _, _, _, rfl, f8, by omega, by omega, by rw [List.length_append, ha]; rfl, by rw [hp, f2, List.append_assoc]; rfl⟩
        · have q4 : fitsAt one other (k + 1) (i + u) j = [] := by simpa using q3
          refine es_next ⟨?_, _, _, _, rfl⟩
          rw [firstF_snoc, hF]
          simp [q4]
    · obtain ⟨hF, _⟩ := hI
      rw [rngD_len, f1] at hF
      cases hF
  · obtain ⟨i, j, acc, x6, x7, x8, x9, rfl, ht, hi, hj, ha, hp⟩ := hI
    rw [rngD_len, Nat.sub_self] at hp
    have ep : prs one other = acc := by rw [hp]; simp [prsF]
    rw [ep] at h
    walk_at "go"
    exact ⟨_, rfl, h⟩
end
end Ek

/-! M84c: blocks of changes. -/
namespace Ek
open PySem PySem.Spec PyProof.Rows L2
/-- xs[h:p] -/
def sl {α : Type} (xs : List α) (h p : Nat) : List α := (xs.drop h).take (p - h)
theorem sl_get {α : Type} {xs : List α} {h p i : Nat} : (sl xs h p)[i]? = if h + i < p then xs[h + i]? else none := by
  unfold sl
  by_cases e : h + i < p
  · rw [if_pos e, List.getElem?_take_of_lt (by omega), List.getElem?_drop]
  · rw [if_neg e, List.getElem?_eq_none]
    rw [List.length_take]; omega
theorem sl_len {α : Type} {xs : List α} {h p : Nat} (h1 : h ≤ p) (h2 : p ≤ xs.length) : (sl xs h p).length = p - h := by
  unfold sl
  rw [List.length_take, List.length_drop]; omega
theorem sl_len_le {α : Type} {xs : List α} {h p : Nat} : (sl xs h p).length ≤ xs.length := by
  unfold sl
  rw [List.length_take, List.length_drop]; omega
theorem sl_mem {α : Type} {xs : List α} {h p : Nat} {x : α} (m : x ∈ sl xs h p) : x ∈ xs := List.mem_of_mem_drop (List.mem_of_mem_take m)
theorem sl_take {α : Type} {xs : List α} {h p : Nat} (h1 : h ≤ p) : xs.take h ++ sl xs h p = xs.take p := by
  unfold sl
  have := List.take_add (l := xs) (i := h) (j := p - h)
  rw [show h + (p - h) = p by omega] at this
  exact this.symm
theorem cut_map {α : Type} {f : α → Dt} {xs : List α} {h p : Nat} : cutD (xs.map f) (some (h : Int)) (some (p : Int)) = (sl xs h p).map f := by
  unfold cutD
  rw [HT.sIx_nat, HT.sIx_nat, List.length_map, ← List.map_drop, ← List.map_take]
  congr 1
  apply List.ext_getElem?
  intro i
  rw [sl_get]
  by_cases e : h + i < p
  · rw [if_pos e]
    by_cases e2 : min h xs.length + i < min p xs.length
    · rw [List.getElem?_take_of_lt (by omega), List.getElem?_drop]
      congr 1
      omega
    · rw [List.getElem?_eq_none (by rw [List.length_take]; omega), List.getElem?_eq_none (by omega)]
  · rw [if_neg e, List.getElem?_eq_none (by rw [List.length_take]; omega)]
inductive Blk where
  | keep (c : Nat) | turn (a b : List Str)
def blkD : Blk → Dt
  | .keep c => .tup [.str "keep", .int c]
  | .turn a b => .tup [.str "turn", rowD a, rowD b]
def Blk.swap : Blk → Blk
  | .keep c => .keep c
  | .turn a b => .turn b a
abbrev BSt := List Blk × Nat × Nat × Nat
def stepP (one other : List Str) (s : BSt) (p : Nat × Nat) : BSt :=
  if s.2.1 < p.1 ∨ s.2.2.1 < p.2 then ((if 0 < s.2.2.2 then s.1 ++ [.keep s.2.2.2] else s.1) ++ [.turn (sl one s.2.1 p.1) (sl other s.2.2.1 p.2)], p.1 + 1, p.2 + 1, 1)
  else (s.1, p.1 + 1, p.2 + 1, s.2.2.2 + 1)
def finP (s : BSt) : List Blk := if 1 < s.2.2.2 then s.1 ++ [.keep (s.2.2.2 - 1)] else s.1
def allP (one other : List Str) : List (Nat × Nat) := prs one other ++ [(one.length, other.length)]
def blocks (one other : List Str) : List Blk := finP ((allP one other).foldl (stepP one other) ([], 0, 0, 0))
def addK (f : List Blk) : List Blk := match f.getLast? with
  | some (.keep c) => f.dropLast ++ [.keep (c + 1)]
  | _ => f ++ [.keep 1]
def stepL (one other : List Str) (s : List Blk × Nat × Nat) (p : Nat × Nat) : List Blk × Nat × Nat :=
  let f1 := if s.2.1 < p.1 ∨ s.2.2 < p.2 then s.1 ++ [.turn (sl one s.2.1 p.1) (sl other s.2.2 p.2)] else s.1
  (if p.1 < one.length then addK f1 else f1, p.1 + 1, p.2 + 1)
/-- no keep at its end -/
def noK (f : List Blk) : Prop := ∀ c, f.getLast? ≠ some (.keep c)
theorem addK_no {f : List Blk} (h : noK f) : addK f = f ++ [.keep 1] := by
  unfold addK
  split
  · rename_i c e; exact absurd e (h c)
  · rfl
theorem addK_keep {f : List Blk} {c : Nat} : addK (f ++ [.keep c]) = f ++ [.keep (c + 1)] := by
  have e : (f ++ [Blk.keep c]).getLast? = some (.keep c) := by simp
  unfold addK
  rw [e]
  simp
def keepL (k : Nat) : List Blk := if 0 < k then [.keep k] else []
theorem noK_turn {f : List Blk} {a b : List Str} : noK (f ++ [.turn a b]) := fun c e => by
  have e2 : (f ++ [Blk.turn a b]).getLast? = some (.turn a b) := by simp
  rw [e2] at e
  cases e
theorem two_folds {one other : List Str} : ∀ (ps : List (Nat × Nat)) (s : BSt), (∀ p ∈ ps, p.1 < one.length) → noK s.1 →
    noK (ps.foldl (stepP one other) s).1 ∧ ps.foldl (stepL one other) (s.1 ++ keepL s.2.2.2, s.2.1, s.2.2.1) =
      ((ps.foldl (stepP one other) s).1 ++ keepL (ps.foldl (stepP one other) s).2.2.2, (ps.foldl (stepP one other) s).2.1, (ps.foldl (stepP one other) s).2.2.1)
  | [], s, _, hn => ⟨hn, rfl⟩
  | p :: ps, s, hp, hn => by
    obtain ⟨f, h, t, k⟩ := s
    have hp1 := hp p (List.mem_cons_self ..)
    have step : stepL one other (f ++ keepL k, h, t) p = ((stepP one other (f, h, t, k) p).1 ++ keepL (stepP one other (f, h, t, k) p).2.2.2, (stepP one other (f, h, t, k) p).2.1, (stepP one other (f, h, t, k) p).2.2.1) ∧ noK (stepP one other (f, h, t, k) p).1 := by
      unfold stepL stepP
      dsimp only
      rw [if_pos hp1]
      by_cases e : h < p.1 ∨ t < p.2
      · rw [if_pos e, if_pos e]
        dsimp only
        refine ⟨?_, noK_turn⟩
        rw [addK_no noK_turn]
        unfold keepL
        by_cases hk : 0 < k
        · simp [hk]
        · simp [hk]
      · rw [if_neg e, if_neg e]
        dsimp only
        refine ⟨?_, hn⟩
        unfold keepL
        by_cases hk : 0 < k
        · rw [if_pos hk, addK_keep, if_pos (by omega)]
        · rw [if_neg hk, List.append_nil, addK_no hn, if_pos (by omega)]
          have : k = 0 := by omega
          rw [this]
    rw [List.foldl_cons, List.foldl_cons, step.1]
    exact two_folds ps _ (fun q hq => hp q (List.mem_cons_of_mem _ hq)) step.2
theorem prsF_lt {one other : List Str} : ∀ {k i j : Nat}, tb one other i j = k → ∀ p ∈ prsF one other k i j, p.1 < one.length
  | 0, _, _, _, p, hp => by simp [prsF] at hp
  | k + 1, i, j, h, p, hp => by
    obtain ⟨p', a, l, _, e, _, h2, _, _, _, t⟩ := prs_step h
    rw [e] at hp
    rcases List.mem_cons.mp hp with z | z
    · rw [z]; exact h2
    · exact prsF_lt t p z
/-- both ways make the same blocks -/
theorem blocks_L (one other : List Str) : ((allP one other).foldl (stepL one other) ([], 0, 0)).1 = blocks one other := by
  unfold blocks allP
  rw [List.foldl_append, List.foldl_append]
  obtain ⟨h1, h2⟩ := two_folds (one := one) (other := other) (prs one other) ([], 0, 0, 0) (fun p hp => prsF_lt rfl p hp) (fun c e => by simp at e)
  have e0 : (([] : List Blk) ++ keepL 0, 0, 0) = (([] : List Blk), 0, 0) := rfl
  rw [e0] at h2
  rw [h2]
  generalize (prs one other).foldl (stepP one other) ([], 0, 0, 0) = s at h1 h2 ⊢
  obtain ⟨f, h, t, k⟩ := s
  simp only [List.foldl_cons, List.foldl_nil]
  unfold stepL stepP finP
  dsimp only
  rw [if_neg (Nat.lt_irrefl _)]
  by_cases e : h < one.length ∨ t < other.length
  · rw [if_pos e, if_pos e]
    dsimp only
    rw [if_neg (by decide)]
    unfold keepL
    by_cases hk : 0 < k
    · simp [hk]
    · simp [hk]
  · rw [if_neg e, if_neg e]
    dsimp only
    unfold keepL
    by_cases hk : 0 < k
    · rw [if_pos hk, if_pos (by omega)]; rfl
    · rw [if_neg hk, if_neg (by omega), List.append_nil]
/-! ### blocks carried out -/
def apB (row : List Str) : List Blk → Nat → Option (List Str)
  | [], h => if h = row.length then some [] else none
  | .keep c :: bs, h => if h + c ≤ row.length then (apB row bs (h + c)).map (sl row h (h + c) ++ ·) else none
  | .turn a b :: bs, h => if sl row h (h + a.length) = a then (apB row bs (h + a.length)).map (b ++ ·) else none
inductive Pre (one other : List Str) : List Blk → Nat → Nat → Prop
  | nil : Pre one other [] 0 0
  | keep {f : List Blk} {i j c : Nat} : Pre one other f i j → 0 < c → i + c ≤ one.length → j + c ≤ other.length → sl one i (i + c) = sl other j (j + c) → Pre one other (f ++ [.keep c]) (i + c) (j + c)
  | turn {f : List Blk} {i j p a : Nat} : Pre one other f i j → i ≤ p → p ≤ one.length → j ≤ a → a ≤ other.length → (i < p ∨ j < a) → Pre one other (f ++ [.turn (sl one i p) (sl other j a)]) p a
theorem Pre.swap {one other : List Str} {f : List Blk} {i j : Nat} (h : Pre one other f i j) : Pre other one (f.map Blk.swap) j i := by
  induction h with
  | nil => exact .nil
  | keep _ h1 h2 h3 h4 ih => rw [List.map_append]; exact .keep ih h1 h3 h2 h4.symm
  | turn _ h1 h2 h3 h4 h5 ih => rw [List.map_append]; exact .turn ih h3 h4 h1 h2 h5.symm
theorem Pre.ap {one other : List Str} {f : List Blk} {i j : Nat} (h : Pre one other f i j) : ∀ rest, apB one (f ++ rest) 0 = (apB one rest i).map (other.take j ++ ·) := by
  induction h with
  | nil => intro rest; simp
  | keep _ h1 h2 h3 h4 ih =>
    intro rest
    rw [List.append_assoc, List.singleton_append, ih, apB, if_pos h2, Option.map_map]
    congr 1
    funext x
    simp only [Function.comp]
    rw [h4, ← List.append_assoc, sl_take (by omega)]
  | turn _ h1 h2 h3 h4 h5 ih =>
    intro rest
    rename_i i j p a _
    have el : i + (sl one i p).length = p := by rw [sl_len h1 h2]; omega
    rw [List.append_assoc, List.singleton_append, ih, apB, el, if_pos rfl, Option.map_map]
    congr 1
    funext x
    simp only [Function.comp]
    rw [← List.append_assoc, sl_take h3]
theorem Pre.full {one other : List Str} {f : List Blk} (h : Pre one other f one.length other.length) : apB one f 0 = some other := by
  have := h.ap []
  rw [List.append_nil] at this
  rw [this, apB, if_pos rfl]
  simp
def okB (n : Nat) : Blk → Prop
  | .keep c => 0 < c
  | .turn a b => a.length ≤ n ∧ b.length ≤ n ∧ (∀ z ∈ a, okT 100 z) ∧ ∀ z ∈ b, okT 100 z
theorem Pre.ok {one other : List Str} {n : Nat} (h1 : one.length ≤ n) (h2 : other.length ≤ n) (o1 : ∀ z ∈ one, okT 100 z) (o2 : ∀ z ∈ other, okT 100 z) {f : List Blk} {i j : Nat} (h : Pre one other f i j) : (∀ b ∈ f, okB n b) ∧ f.length ≤ i + j := by
  induction h with
  | nil => exact ⟨fun b hb => (by cases hb), Nat.zero_le _⟩
  | keep _ g1 g2 g3 g4 ih =>
    refine ⟨fun b hb => ?_, by rw [List.length_append, List.length_singleton]; omega⟩
    rcases List.mem_append.mp hb with z | z
    · exact ih.1 b z
    · rw [show b = _ from by simpa using z]; exact g1
  | turn _ g1 g2 g3 g4 g5 ih =>
    refine ⟨fun b hb => ?_, by rw [List.length_append, List.length_singleton]; omega⟩
    rcases List.mem_append.mp hb with z | z
    · exact ih.1 b z
    · rw [show b = _ from by simpa using z]
      exact ⟨Nat.le_trans sl_len_le h1, Nat.le_trans sl_len_le h2, fun z hz => o1 z (sl_mem hz), fun z hz => o2 z (sl_mem hz)⟩
end Ek

/-! M84d: the blocks lead from one row to the other; three rows merged. -/
namespace Ek
open PySem PySem.Spec PyProof.Rows L2
theorem sl_same {one other : List Str} {i j k : Nat} (h : sl one i (i + k) = sl other j (j + k)) (h1 : i + k < one.length) (h2 : j + k < other.length) (e : one[i + k]? = other[j + k]?) : sl one i (i + k + 1) = sl other j (j + k + 1) := by
  apply List.ext_getElem?
  intro m
  rw [sl_get, sl_get]
  have := congrArg (·[m]?) h
  simp only [sl_get] at this
  by_cases c : m < k
  · rw [if_pos (by omega), if_pos (by omega)] at this ⊢
    exact this
  · by_cases c2 : m = k
    · subst c2
      rw [if_pos (by omega), if_pos (by omega)]
      exact e
    · rw [if_neg (by omega), if_neg (by omega)]
inductive Chain (one other : List Str) : Nat → Nat → List (Nat × Nat) → Prop
  | nil {h t : Nat} : Chain one other h t []
  | cons {h t p a : Nat} {ps : List (Nat × Nat)} : h ≤ p → t ≤ a → p < one.length → a < other.length → one[p]? = other[a]? → Chain one other (p + 1) (a + 1) ps → Chain one other h t ((p, a) :: ps)
theorem prsF_chain {one other : List Str} : ∀ {k i j : Nat}, tb one other i j = k → Chain one other i j (prsF one other k i j)
  | 0, _, _, _ => .nil
  | k + 1, i, j, h => by
    obtain ⟨p, a, l, _, e, h1, h2, h3, h4, h5, t⟩ := prs_step h
    rw [e]
    exact .cons h1 h3 h2 h4 h5 (prsF_chain t)
def GoodS (one other : List Str) (s : BSt) : Prop := ∃ i j, Pre one other s.1 i j ∧ s.2.1 = i + s.2.2.2 ∧ s.2.2.1 = j + s.2.2.2 ∧ s.2.1 ≤ one.length ∧ s.2.2.1 ≤ other.length ∧ sl one i (i + s.2.2.2) = sl other j (j + s.2.2.2)
theorem GoodS.flush {one other : List Str} {s : BSt} (g : GoodS one other s) : Pre one other (if 0 < s.2.2.2 then s.1 ++ [.keep s.2.2.2] else s.1) s.2.1 s.2.2.1 := by
  obtain ⟨i, j, h, e1, e2, h1, h2, h3⟩ := g
  by_cases hk : 0 < s.2.2.2
  · rw [if_pos hk, e1, e2]
    exact .keep h hk (by omega) (by omega) h3
  · rw [if_neg hk]
    have : s.2.2.2 = 0 := by omega
    rw [e1, e2, this]
    exact h
theorem GoodS.step {one other : List Str} {s : BSt} {p a : Nat} (g : GoodS one other s) (h1 : s.2.1 ≤ p) (h2 : s.2.2.1 ≤ a) (h3 : p < one.length) (h4 : a < other.length) (e : one[p]? = other[a]?) : GoodS one other (stepP one other s (p, a)) ∧ (stepP one other s (p, a)).2.1 = p + 1 ∧ (stepP one other s (p, a)).2.2.1 = a + 1 := by
  unfold stepP
  by_cases c : s.2.1 < p ∨ s.2.2.1 < a
  · rw [if_pos c]
    refine ⟨⟨p, a, .turn g.flush h1 (by omega) h2 (by omega) c, rfl, rfl, h3, h4, ?_⟩, rfl, rfl⟩
    exact sl_same (k := 0) (by simp [sl]) h3 h4 e
  · rw [if_neg c]
    obtain ⟨i, j, h, e1, e2, g1, g2, g3⟩ := g
    have ep : p = s.2.1 := by omega
    have ea : a = s.2.2.1 := by omega
    refine ⟨⟨i, j, h, by show p + 1 = i + (s.2.2.2 + 1); omega, by show a + 1 = j + (s.2.2.2 + 1); omega, h3, h4, ?_⟩, rfl, rfl⟩
    rw [ep, ea, e1, e2] at e
    exact sl_same g3 (by omega) (by omega) e
theorem GoodS.fold {one other : List Str} : ∀ {ps : List (Nat × Nat)} {s : BSt}, GoodS one other s → Chain one other s.2.1 s.2.2.1 ps → GoodS one other (ps.foldl (stepP one other) s)
  | [], s, g, _ => g
  | p :: ps, s, g, c => by
    cases c with
    | cons h1 h2 h3 h4 h5 h6 =>
      obtain ⟨g', e1, e2⟩ := g.step h1 h2 h3 h4 h5
      rw [List.foldl_cons]
      refine GoodS.fold g' ?_
      rw [e1, e2]
      exact h6
theorem blocks_pre (one other : List Str) : Pre one other (blocks one other) one.length other.length := by
  unfold blocks allP
  rw [List.foldl_append]
  have g0 : GoodS one other ([], 0, 0, 0) := ⟨0, 0, .nil, rfl, rfl, Nat.zero_le _, Nat.zero_le _, by simp [sl]⟩
  have g := GoodS.fold g0 (prsF_chain (one := one) (other := other) (k := tb one other 0 0) (i := 0) (j := 0) rfl)
  show Pre one other (finP ([(one.length, other.length)].foldl (stepP one other) ((prsF one other (tb one other 0 0) 0 0).foldl (stepP one other) ([], 0, 0, 0)))) _ _
  generalize (prsF one other (tb one other 0 0) 0 0).foldl (stepP one other) ([], 0, 0, 0) = s at g ⊢
  simp only [List.foldl_cons, List.foldl_nil]
  unfold stepP finP
  have fl := g.flush
  obtain ⟨i, j, h, e1, e2, g1, g2, g3⟩ := g
  by_cases c : s.2.1 < one.length ∨ s.2.2.1 < other.length
  · rw [if_pos c]
    dsimp only
    rw [if_neg (Nat.lt_irrefl _)]
    exact .turn fl g1 (Nat.le_refl _) g2 (Nat.le_refl _) c
  · rw [if_neg c]
    dsimp only
    have ep : s.2.1 = one.length := by omega
    have ea : s.2.2.1 = other.length := by omega
    rw [ep, ea] at fl
    by_cases hk : 0 < s.2.2.2
    · rw [if_pos hk] at fl
      rw [if_pos (by omega), Nat.add_sub_cancel]
      exact fl
    · rw [if_neg hk] at fl
      rw [if_neg (by omega)]
      exact fl
/-! ### three rows -/
def look (l : List (Nat × Nat)) (p : Nat) : Option Nat := (l.find? fun q => decide (q.1 = p)).map (·.2)
def dKs (l : List (Nat × Nat)) : List Key := l.map fun q => .inl (q.1 : Int)
def dEs (l : List (Nat × Nat)) : List Dt := l.map fun q => Dt.int (q.2 : Int)
theorem getK_look (p : Nat) : ∀ l : List (Nat × Nat), getK (dKs l) (dEs l) (.inl (p : Int)) = (look l p).map fun a : Nat => Dt.int (a : Int)
  | [] => rfl
  | q :: l => by
    have ih := getK_look p l
    unfold look dKs dEs at ih ⊢
    simp only [List.map_cons, getK, List.find?_cons]
    by_cases e : q.1 = p
    · rw [if_pos (by rw [e]), decide_eq_true e]; rfl
    · rw [if_neg (by intro z; exact e (by have := Sum.inl.inj z; omega)), decide_eq_false e]
      exact ih
theorem chain_nodup {one other : List Str} : ∀ {ps : List (Nat × Nat)} {h t : Nat}, Chain one other h t ps → (dKs ps).Nodup ∧ ∀ q ∈ ps, h ≤ q.1
  | [], _, _, _ => ⟨by simp [dKs], fun q hq => by cases hq⟩
  | p :: ps, h, t, .cons h1 h2 h3 h4 h5 h6 => by
    obtain ⟨a, b⟩ := chain_nodup h6
    refine ⟨?_, fun q hq => ?_⟩
    · unfold dKs at a ⊢
      rw [List.map_cons]
      refine List.nodup_cons.mpr ⟨fun m => ?_, a⟩
      obtain ⟨q, hq, e⟩ := List.mem_map.mp m
      have := b q hq
      have e : (q.1 : Int) = _ := Sum.inl.inj e
      omega
    · rcases List.mem_cons.mp hq with z | z
      · rw [z]; exact h1
      · have := b q z; omega
theorem prs_nodup (one other : List Str) : (dKs (prs one other)).Nodup := (chain_nodup (prsF_chain (one := one) (other := other) rfl)).1
abbrev Tri := Nat × Nat × Nat
def stb (base one other : List Str) (p : Nat) : Option Tri := match look (prs base one) p, look (prs base other) p with
  | some a, some b => some (p, a, b)
  | _, _ => none
def stab (base one other : List Str) : List Tri := (List.range base.length).filterMap (stb base one other)
def allT (base one other : List Str) : List Tri := stab base one other ++ [(base.length, one.length, other.length)]
abbrev Cl := Nat × Nat × List Str × List Str
abbrev MSt := List Str × List Cl × Tri
def stepM (base one other : List Str) (s : MSt) (q : Tri) : MSt :=
  ((match tk (sl base s.2.2.1 q.1) (sl one s.2.2.2.1 q.2.1) (sl other s.2.2.2.2 q.2.2) with
    | some r => s.1 ++ r
    | none => s.1) ++ sl base q.1 (q.1 + 1),
   (match tk (sl base s.2.2.1 q.1) (sl one s.2.2.2.1 q.2.1) (sl other s.2.2.2.2 q.2.2) with
    | some _ => s.2.1
    | none => s.2.1 ++ [(s.2.2.1, q.1, sl one s.2.2.2.1 q.2.1, sl other s.2.2.2.2 q.2.2)]), (q.1 + 1, q.2.1 + 1, q.2.2 + 1))
def mrg (base one other : List Str) : MSt := (allT base one other).foldl (stepM base one other) ([], [], (0, 0, 0))
def clD (c : Cl) : Dt := .tup [.int c.1, .int c.2.1, rowD c.2.2.1, rowD c.2.2.2]
def triD (q : Tri) : Dt := .tup [.int q.1, .int q.2.1, .int q.2.2]
/-- what is told of three -/
def resD (s : MSt) : Dt := if s.2.1 = [] then .tup [.str "merged", rowD s.1] else .tup [.str "clash", .tup (s.2.1.map clD)]
theorem tk_comm (b x y : List Str) : tk b x y = tk b y x := by
  unfold tk
  by_cases h1 : x = b
  · by_cases h2 : y = b
    · rw [if_pos h1, if_pos h2, h1, h2]
    · rw [if_pos h1, if_neg h2, if_pos (.inl h1)]
  · by_cases h2 : y = b
    · rw [if_neg h1, if_pos h2, if_pos (.inl h2)]
    · rw [if_neg h1, if_neg h2]
      by_cases h3 : x = y
      · rw [if_pos (.inr h3.symm), if_pos (.inr h3), h3]
      · rw [if_neg (fun z => z.elim h2 fun e => h3 e.symm), if_neg (fun z => z.elim h1 h3)]
def swT (q : Tri) : Tri := (q.1, q.2.2, q.2.1)
def swC (c : Cl) : Cl := (c.1, c.2.1, c.2.2.2, c.2.2.1)
theorem stb_swap (base one other : List Str) (p : Nat) : stb base other one p = (stb base one other p).map swT := by
  unfold stb
  cases look (prs base one) p <;> cases look (prs base other) p <;> rfl
theorem allT_swap (base one other : List Str) : allT base other one = (allT base one other).map swT := by
  unfold allT stab
  rw [List.map_append, List.map_filterMap]
  congr 1
  congr 1
  funext p
  exact stb_swap base one other p
theorem fold_swap (base one other : List Str) : ∀ (qs : List Tri) (s : MSt), (qs.map swT).foldl (stepM base other one) (s.1, s.2.1.map swC, swT s.2.2) =
    ((qs.foldl (stepM base one other) s).1, (qs.foldl (stepM base one other) s).2.1.map swC, swT (qs.foldl (stepM base one other) s).2.2)
  | [], s => rfl
  | q :: qs, s => by
    rw [List.map_cons, List.foldl_cons, List.foldl_cons, ← fold_swap base one other qs]
    congr 1
    unfold stepM swT
    dsimp only
    rw [tk_comm (sl base s.2.2.1 q.1) (sl one s.2.2.2.1 q.2.1)]
    cases tk (sl base s.2.2.1 q.1) (sl other s.2.2.2.2 q.2.2) (sl one s.2.2.2.1 q.2.1) with
    | some r => rfl
    | none => simp [swC]
theorem mrg_swap (base one other : List Str) : mrg base other one = ((mrg base one other).1, (mrg base one other).2.1.map swC, swT (mrg base one other).2.2) := by
  unfold mrg
  rw [allT_swap]
  exact fold_swap base one other _ ([], [], (0, 0, 0))
end Ek

namespace Ek
open PySem PySem.Spec PyProof.Rows L2 StX
local macro_rules
  | `(tactic| walk_at "nrm") => `(tactic| dsimp only [asgS, bks2, bk1, List.set_cons_zero, List.set_cons_succ, List.set_nil, wipeS, Sl.put, List.getElem?_cons_zero, List.getElem?_cons_succ, List.getElem?_nil, Option.getD_some, Option.getD_none, reduceIte, Nat.reduceEqDiff, List.map_nil, List.map_cons, List.nil_append, List.cons_append, List.replicate])
local macro_rules
  | `(tactic| walk_at "go1") => `(tactic| first
    | with_reducible refine es_seq ?_
    | with_reducible refine es_ret ?_
    | with_reducible refine es_retN ?_
    | with_reducible refine es_drop ?_
    | with_reducible refine es_asg ?_
    | with_reducible refine es_next ?_
    | with_reducible refine es_brk ?_
    | with_reducible refine es_cont ?_
    | with_reducible refine es_if ?_
    | with_reducible refine es_par ?_
    | with_reducible refine es_par3 ?_
    | with_reducible refine ev_op ?_
    | with_reducible refine ev_cb ?_
    | with_reducible refine ev_sl ?_
    | with_reducible refine eo_no ?_
    | with_reducible refine eo_pt ?_
    | with_reducible refine ea_cons ?_
    | with_reducible refine ea_nil ?_
    | with_reducible refine ea_star ?_
    | with_reducible refine ev_tup ?_
    | with_reducible refine ev_lst ?_
    | ((with_reducible refine ev_c (d := ?_) ?_ ?_); rotate_left; · rfl)
    | ((with_reducible refine ev_im (d := ?_) ?_ ?_); rotate_left; · rfl)
    | ((with_reducible refine ev_bo (s := ?_) ?_ ?_ ?_); rotate_left; (· rfl); (· rfl))
    | with_reducible refine ev_andV ?_
    | with_reducible refine ev_orV ?_
    | with_reducible refine ev_notV ?_
    | with_reducible refine ev_if ?_
    | with_reducible refine ev_neg ?_
    | with_reducible refine ev_isN ?_
    | with_reducible refine ev_notN ?_
    | with_reducible refine ev_cal2 ?_
    | refine Exists.intro _ (And.intro (a := Ags _ _ _ = some _) rfl (And.intro (a := ndB _ = true) rfl ?_))
    | with_reducible refine ev_chainI (fun _ _ => rfl) ?_
    | with_reducible refine et_test ?_
    | with_reducible refine et_val ?_
    | with_reducible refine et_and ?_
    | with_reducible refine et_or ?_
    | with_reducible refine et_not ?_
    | with_reducible refine ap_addI ?_
    | with_reducible refine ap_sub ?_
    | with_reducible refine ap_lt ?_
    | with_reducible refine ap_le ?_
    | with_reducible refine ap_gt ?_
    | with_reducible refine ap_ge ?_
    | with_reducible refine ap_eqI ?_
    | with_reducible refine ap_neI ?_
    | with_reducible refine ap_eqS ?_
    | with_reducible refine ap_neS ?_
    | with_reducible refine ap_max ?_
    | with_reducible refine ap_max3 ?_
    | with_reducible refine ap_min ?_
    | with_reducible refine ap_abs ?_
    | with_reducible refine ap_int ?_
    | with_reducible refine ap_intB ?_
    | ((with_reducible refine ap_len (ds := ?_) ?_ ?_); rotate_left; · rfl)
    | with_reducible refine ap_slT ?_
    | with_reducible refine ap_addT ?_ ?_
    | with_reducible refine ap_inS ?_
    | with_reducible refine ap_tupT ?_
    | ((with_reducible refine ap_tupL (ds := ?_) ?_ ?_); rotate_left; · rfl)
    | ((with_reducible refine ap_list (ds := ?_) ?_ ?_); rotate_left; · rfl)
    | refine ap_isi (b := true) rfl rfl (by decide +kernel) ?_
    | refine ap_isi (b := false) rfl rfl (by decide +kernel) ?_
    | with_reducible refine et_yes ?_
    | refine And.intro (a := List.length _ ≤ sizeLine) (of_decide_eq_true rfl) ?_
    | refine ap_ixO (i := 0) rfl rfl ?_
    | refine ap_ixO (i := 1) rfl rfl ?_
    | refine ap_ixO (i := 2) rfl rfl ?_
    | refine ap_ixO (i := 0) rfl (atI_nat (j := 0) rfl) ?_
    | with_reducible refine ei_any ?_
    | with_reducible refine ei_rng1 ?_
    | with_reducible refine ei_rng2 ?_
    | with_reducible refine ei_rng3 ?_
    | with_reducible refine ei_enumT ?_
    | with_reducible refine ⟨fun _ => ?_, fun (e : true = false) => nomatch e⟩
    | refine ⟨fun (e : (!true) = true) => Bool.noConfusion (show false = true from e), fun _ => ?_⟩
    | refine ⟨fun _ => ?_, fun (e : (!false) = false) => Bool.noConfusion (show true = false from e)⟩
    | with_reducible refine ⟨fun (e : false = true) => nomatch e, fun _ => ?_⟩
    | (with_reducible refine ⟨_, rfl, ?_⟩))
local macro_rules
  | `(tactic| walk_at "go") => `(tactic| repeat walk_at "go1")

theorem et_cut {K : PySem.W.Frag} {tt : TT} {δ : List Sl} {PT : Bool → List Sl → Prop} (c : Bool) (h : Et K tt δ fun b δ' => b = c ∧ δ' = δ) (p : PT c δ) : Et K tt δ PT := h.mono fun b δ' ⟨e1, e2⟩ => by
  subst e1 e2
  exact p
theorem es_cut {K : PySem.W.Frag} {ts : TS} {δ : List Sl} {N : Nd} (δ1 : List Sl) (h : Es K ts δ { nx := fun δ' => δ' = δ1, rt := fun _ _ => False }) (p : N.nx δ1) : Es K ts δ N :=
  h.mono fun W D hD => ⟨fun F H σ δ' e S => by subst e; exact hD.1 F H σ _ p S, fun F H σ v r δ' e => e.elim, fun F H σ δ' e => e.elim, fun F H σ δ' e => e.elim⟩
theorem fds_im {ds es : List Dt} {rs : List Rs} (h : fds rs = some es) : fds (ds.map im ++ rs) = some (ds ++ es) := by
  induction ds with
  | nil => exact h
  | cons d ds ih =>
    rw [List.map_cons, List.cons_append, fds, ih]
    rfl
def stP (one other : List Str) (t : Nat) : BSt := ((allP one other).take t).foldl (stepP one other) ([], 0, 0, 0)
theorem stP_next {one other : List Str} {t : Nat} {p : Nat × Nat} (h : (allP one other)[t]? = some p) : stP one other (t + 1) = stepP one other (stP one other t) p := by
  unfold stP
  rw [List.take_add_one, h, Option.toList_some, List.foldl_append]
  rfl
theorem stP_len {one other : List Str} : ∀ t, (stP one other t).1.length ≤ 2 * t
  | 0 => Nat.le_refl _
  | t + 1 => by
    cases h : (allP one other)[t]? with
    | none =>
      have := stP_len (one := one) (other := other) t
      unfold stP at this ⊢
      rw [List.take_add_one, h]
      simp only [Option.toList_none, List.append_nil]
      omega
    | some p =>
      have := stP_len (one := one) (other := other) t
      rw [stP_next h]
      unfold stepP
      split
      · dsimp only
        rw [List.length_append, List.length_singleton]
        split
        · rw [List.length_append, List.length_singleton]; omega
        · omega
      · dsimp only; omega
theorem allP_D (one other : List Str) : (prs one other).map prD ++ [prD (one.length, other.length)] = (allP one other).map prD := by
  unfold allP; rw [List.map_append]; rfl
theorem allP_len (one other : List Str) : (allP one other).length ≤ one.length + 1 := by
  unfold allP
  have := prs_len_le one other
  rw [List.length_append]; simp; omega
section
variable {P : Program} {w : World} {K : PySem.W.Frag} {mg : Str → Option Value} {base : Heap}
def A_common : Pr := fun δa q => ∃ one other : List Str, δa = [.im (rowD one), .im (rowD other)] ∧ okR one ∧ okR other ∧ q (.im (.tup ((prs one other).map prD))) δa
set_option maxHeartbeats 4000000 in
theorem ok_common (T : Tx mg) (c_check_row : CalR P w K mg base CX0 2 "check_row" (FD K A_check_row)) (c_pairs_of : CalR P w K mg base CX0 2 "pairs_of" (FD K A_pairs_of)) {f : Addr} {fd : FuncData} (F : Fn K "common" s_common f fd) (hm : mg "common" = some (.ref f)) (hb : Binds K fd ["one", "other"] []) : CalR P w K mg base CX0 3 "common" (FD K A_common) := by
  refine cal_fd 2 [] F hm sc_common hb .nil rfl rfl (fun δa q hA => by simp only [A_common] at hA; (repeat obtain ⟨_, hA⟩ := hA); simp only [*, List.length_cons, List.length_nil]) fun cdv Ar outer s H E hG hr => ?_
  have hu : (Ar.deeper (envOfC "common" (defScope s_common) s.heap.objs.size f cdv)).units + 65 < cLine := by have := hr.un; omega
  refine ⟨_, (pss_cons (ps_expr (pe_cal c_check_row hG (hr.mono (by decide)) pass0 (pa_cons (pv 0) pa_nil))) (pss_cons (ps_expr (pe_cal c_check_row hG (hr.mono (by decide)) pass0 (pa_cons (pv 1) pa_nil))) (pss_one (ps_ret (pe_callTy (k_tup (K := K) rfl) (by rfl) T.z_tuple (by decide +kernel) (pa_cons (pe_cal c_pairs_of hG (hr.mono (by decide)) pass0 (pa_cons (pv 0) (pa_cons (pv 1) pa_nil))) pa_nil)))))), fun δa q hA => ?_⟩
  obtain ⟨one, other, rfl, h1, h2, h⟩ := hA
  change Es K _ [_, _] _
  walk_at "go"
  refine ⟨one, rfl, h1, trivial, ?_⟩
  walk_at "nrm"
  walk_at "go"
  refine ⟨other, rfl, h2, trivial, ?_⟩
  walk_at "nrm"
  walk_at "go"
  refine ⟨one, other, rfl, Nat.le_trans h1.1 (by decide), Nat.le_trans h2.1 (by decide), h1.2, h2.2, trivial, ?_⟩
  walk_at "nrm"
  walk_at "go"
  exact ⟨_, rfl, h⟩
def A_blocks_of : Pr := fun δa q => ∃ one other : List Str, δa = [.im (rowD one), .im (rowD other)] ∧ okR one ∧ okR other ∧ q (.ls ((blocks one other).map blkD)) δa
set_option maxHeartbeats 4000000 in
theorem ok_blocks_of (T : Tx mg) (c_pairs_of : CalR P w K mg base CX0 2 "pairs_of" (FD K A_pairs_of)) {f : Addr} {fd : FuncData} (F : Fn K "blocks_of" s_blocks_of f fd) (hm : mg "blocks_of" = some (.ref f)) (hb : Binds K fd ["one", "other"] []) : CalR P w K mg base CX0 3 "blocks_of" (FD K A_blocks_of) := by
  refine cal_fd 2 [] F hm sc_blocks_of hb .nil rfl rfl (fun δa q hA => by simp only [A_blocks_of] at hA; (repeat obtain ⟨_, hA⟩ := hA); simp only [*, List.length_cons, List.length_nil]) fun cdv Ar outer s H E hG hr => ?_
  have hu : (Ar.deeper (envOfC "blocks_of" (defScope s_blocks_of) s.heap.objs.size f cdv)).units + 65 < cLine := by have := hr.un; omega
  refine ⟨_, (pss_cons (ps_asg (pe_tup (pa_cons (pe_lst pa_nil) (pa_cons pe_int (pa_cons pe_int (pa_cons pe_int pa_nil))))) (k_gsq (K := K) rfl (n := 4) rfl (pgs_cons (pg_name (i := 2) sc_blocks_of.nd rfl (Or.inl rfl)) (pgs_cons (pg_name (i := 3) sc_blocks_of.nd rfl (Or.inl rfl)) (pgs_cons (pg_name (i := 4) sc_blocks_of.nd rfl (Or.inl rfl)) (pgs_cons (pg_name (i := 5) sc_blocks_of.nd rfl (Or.inl rfl)) pgs_nil)))))) (pss_cons (ps_for PassesOwn.never rfl (k_iany (K := K) rfl (pe_lst (k_star (K := K) rfl (pe_cal c_pairs_of hG (hr.mono (by decide)) pass0 (pa_cons (pv 0) (pa_cons (pv 1) pa_nil))) (pa_cons (pe_tup (pa_cons (pe_callB (k_len (K := K) rfl) (by rfl) T.z_len (by decide +kernel) (pa_cons (pv 0) pa_nil)) (pa_cons (pe_callB (k_len (K := K) rfl) (by rfl) T.z_len (by decide +kernel) (pa_cons (pv 1) pa_nil)) pa_nil))) pa_nil)))) (k_gsq (K := K) rfl (n := 2) rfl (pgs_cons (pg_name (i := 6) sc_blocks_of.nd rfl (Or.inl rfl)) (pgs_cons (pg_name (i := 7) sc_blocks_of.nd rfl (Or.inl rfl)) pgs_nil))) (pss_cons (ps_if (PW.pt (pw_or (pt_cmpR op_gt (pv 6) (pv 3) (nomark _)) (pw_or1 (pt_cmpR op_gt (pv 7) (pv 4) (nomark _))))) (pss_cons (ps_if (pt_cmpR op_gt (pv 5) pe_int (nomark _)) (pss_one (ps_expr (k_bm (K := K) rfl PySem.F.plainAttrs_list PySem.F.slot_list_append PySem.F.type_list_append mt_append (pv 2) (pa_cons (pe_tup (pa_cons (pe_glob (v := .str "keep") rfl T.c_KEEP.choose_spec ⟨_, rfl⟩) (pa_cons (pv 5) pa_nil))) pa_nil)))) pss_nil) (pss_cons (ps_expr (k_bm (K := K) rfl PySem.F.plainAttrs_list PySem.F.slot_list_append PySem.F.type_list_append mt_append (pv 2) (pa_cons (pe_tup (pa_cons (pe_glob (v := .str "turn") rfl T.c_TURN.choose_spec ⟨_, rfl⟩) (pa_cons (pe_slice (k_sl (K := K) rfl) (pv 0) (po_some (pv 3)) (po_some (pv 6))) (pa_cons (pe_slice (k_sl (K := K) rfl) (pv 1) (po_some (pv 4)) (po_some (pv 7))) pa_nil)))) pa_nil))) (pss_one (ps_set (i := 5) sc_blocks_of.nd rfl (Or.inl rfl) pe_int)))) pss_nil) (pss_one (ps_par3 (i := 5) (j := 3) (l := 4) rfl sc_blocks_of.nd rfl rfl rfl (by decide) (by decide) (by decide) rfl rfl rfl (pa_cons (pe_op (k_add (K := K) rfl) (pv 5) pe_int) (pa_cons (pe_op (k_add (K := K) rfl) (pv 6) pe_int) (pa_cons (pe_op (k_add (K := K) rfl) (pv 7) pe_int) pa_nil))) rfl)))) (pss_one (ps_ret (pe_ifExp (pt_cmpR op_gt (pv 5) pe_int (nomark _)) (pe_lst (k_star (K := K) rfl (pv 2) (pa_cons (pe_tup (pa_cons (pe_glob (v := .str "keep") rfl T.c_KEEP.choose_spec ⟨_, rfl⟩) (pa_cons (pe_op op_sub (pv 5) pe_int) pa_nil))) pa_nil))) (pv 2)))))), fun δa q hA => ?_⟩
  obtain ⟨one, other, rfl, h1, h2, h⟩ := hA
  change Es K _ [_, _, Sl.un, Sl.un, Sl.un, Sl.un, Sl.un, Sl.un] _
  refine es_seq (es_par4 ?_)
  walk_at "go"
  refine ⟨_, _, _, _, rfl, of_decide_eq_true rfl, of_decide_eq_true rfl, of_decide_eq_true rfl, of_decide_eq_true rfl, ?_⟩
  walk_at "nrm"
  refine es_seq (es_for ?_)
  walk_at "go"
  refine ⟨one, other, rfl, Nat.le_trans h1.1 (by decide), Nat.le_trans h2.1 (by decide), h1.2, h2.2, ⟨trivial, ?_⟩⟩
  walk_at "nrm"
  walk_at "go"
  have n1 := h1.1
  have n2 := h2.1
  have al := allP_len one other
  refine ⟨(allP one other).map prD, ?_, ?_, ?_⟩
  · rw [← allP_D]
    refine fds_im (es := [prD (one.length, other.length)]) ?_
    rw [List.length_map, List.length_map]
    rfl
  · rw [List.length_map]; exact Nat.le_trans (show _ ≤ 41 by omega) (by decide)
  refine ⟨_, rfl, ?_⟩
  refine ⟨fun t δ' => ∃ x6 x7, δ' = [.im (rowD one), .im (rowD other), .ls ((stP one other t).1.map blkD), .im (natD (stP one other t).2.1), .im (natD (stP one other t).2.2.1), .im (natD (stP one other t).2.2.2), x6, x7], [6, 7], ⟨_, _, rfl⟩, fun t d δ' hd hI => ?_, fun δ' hI => ?_⟩
  · obtain ⟨x6, x7, rfl⟩ := hI
    obtain ⟨p, hp, rfl⟩ := get_map hd
    have sn := stP_next hp
    have lf := stP_len (one := one) (other := other) t
    have lt : t < (allP one other).length := (List.getElem?_eq_some_iff.mp hp).1
    generalize stP one other t = s1 at lf sn ⊢
    obtain ⟨f1, hh, tt, k⟩ := s1
    dsimp only at lf
    refine eg_sqT rfl (egs_cons (eg_name (of_decide_eq_true rfl) (egs_cons (eg_name (of_decide_eq_true rfl) (egs_nil ?_)))))
    walk_at "nrm"
    have sz : ∀ m, m ≤ 200 → m < sizeLine := fun m hm => Nat.lt_of_le_of_lt hm (by decide)
    refine es_seq (es_if (et_cut (decide (hh < p.1 ∨ tt < p.2)) ?_ ?_))
    · walk_at "go"
      refine ⟨fun q1 => ?_, fun q1 => ?_⟩
      · have q2 : hh < p.1 := by simpa using q1
        exact ⟨(decide_eq_true (.inl q2)).symm, rfl⟩
      · have q2 : ¬ hh < p.1 := by simpa using q1
        walk_at "go"
        refine ⟨?_, rfl⟩
        rw [decide_eq_decide]; omega
    · refine ⟨fun q1 => ?_, fun q1 => ?_⟩
      · have q2 : hh < p.1 ∨ tt < p.2 := of_decide_eq_true q1
        have ef : stepP one other (f1, hh, tt, k) p = ((if 0 < k then f1 ++ [.keep k] else f1) ++ [.turn (sl one hh p.1) (sl other tt p.2)], p.1 + 1, p.2 + 1, 1) := by
          unfold stepP; rw [if_pos q2]
        rw [ef] at sn
        refine es_seq (es_cut [.im (rowD one), .im (rowD other), .ls ((if 0 < k then f1 ++ [.keep k] else f1).map blkD), .im (natD hh), .im (natD tt), .im (natD k), .im (natD p.1), .im (natD p.2)] ?_ ?_)
        · walk_at "go"
          refine ⟨fun q3 => ?_, fun q3 => ?_⟩
          · have q4 : 0 < k := by simpa using q3
            rw [if_pos q4]
            refine es_drop (ev_bm (i := 2) rfl rfl ?_)
            walk_at "go"
            refine mt_app rfl rfl rfl (sz _ (by rw [List.length_map]; omega)) ?_
            walk_at "nrm"
            rw [List.map_append]; rfl
          · have q4 : ¬ 0 < k := by simpa using q3
            rw [if_neg q4]
            walk_at "go"
            rfl
        · have lf2 : (if 0 < k then f1 ++ [Blk.keep k] else f1).length ≤ 2 * t + 1 := by
            split
            · rw [List.length_append, List.length_singleton]; omega
            · omega
          generalize (if 0 < k then f1 ++ [Blk.keep k] else f1) = f2 at lf2 sn ⊢
          refine es_seq (es_drop (ev_bm (i := 2) rfl rfl ?_))
          walk_at "go"
          rw [cut_map, cut_map]
          walk_at "go"
          refine mt_app rfl rfl rfl (sz _ (by rw [List.length_map]; omega)) ?_
          walk_at "nrm"
          walk_at "go"
          refine ⟨of_decide_eq_true rfl, ?_⟩
          walk_at "nrm"
          walk_at "go"
          refine ⟨_, _, _, rfl, of_decide_eq_true rfl, of_decide_eq_true rfl, of_decide_eq_true rfl, ?_⟩
          walk_at "nrm"
          refine ⟨.im (natD p.1), .im (natD p.2), ?_⟩
          rw [sn, List.map_append]; rfl
      · have q2 : ¬ (hh < p.1 ∨ tt < p.2) := of_decide_eq_false q1
        have ef : stepP one other (f1, hh, tt, k) p = (f1, p.1 + 1, p.2 + 1, k + 1) := by
          unfold stepP; rw [if_neg q2]
        rw [ef] at sn
        walk_at "go"
        refine ⟨_, _, _, rfl, of_decide_eq_true rfl, of_decide_eq_true rfl, of_decide_eq_true rfl, ?_⟩
        refine ⟨.im (natD p.1), .im (natD p.2), ?_⟩
        rw [sn]; rfl
  · obtain ⟨x6, x7, rfl⟩ := hI
    rw [List.length_map]
    have eb : blocks one other = finP (stP one other (allP one other).length) := by
      unfold blocks stP; rw [List.take_length]
    have lf := stP_len (one := one) (other := other) (allP one other).length
    rw [eb] at h
    generalize stP one other (allP one other).length = s1 at lf h ⊢
    obtain ⟨f1, hh, tt, k⟩ := s1
    dsimp only at lf
    unfold finP at h
    dsimp only at h
    walk_at "go"
    refine ⟨fun q1 => ?_, fun q1 => ?_⟩
    · have q2 : 1 < k := by have q3 : (1 : Int) < (k : Int) := of_decide_eq_true q1; omega
      rw [if_pos q2] at h
      refine ev_lst (ea_star ?_)
      walk_at "go"
      refine ⟨f1.map blkD ++ [blkD (.keep (k - 1))], ?_, ?_, ?_⟩
      · refine fds_im ?_
        have : (k : Int) - 1 = ((k - 1 : Nat) : Int) := by omega
        rw [this]; rfl
      · rw [List.length_append, List.length_map, List.length_singleton]
        exact Nat.le_trans (show _ ≤ 200 by omega) (by decide)
      · rw [List.map_append] at h
        exact ⟨_, rfl, h⟩
    · have q2 : ¬ 1 < k := by have q3 : ¬ (1 : Int) < (k : Int) := of_decide_eq_false q1; omega
      rw [if_neg q2] at h
      walk_at "go"
      exact ⟨_, rfl, h⟩
def A_changes : Pr := fun δa q => ∃ one other : List Str, δa = [.im (rowD one), .im (rowD other)] ∧ okR one ∧ okR other ∧ q (.im (.tup ((blocks one other).map blkD))) δa
set_option maxHeartbeats 4000000 in
theorem ok_changes (T : Tx mg) (c_blocks_of : CalR P w K mg base CX0 3 "blocks_of" (FD K A_blocks_of)) (c_check_row : CalR P w K mg base CX0 2 "check_row" (FD K A_check_row)) {f : Addr} {fd : FuncData} (F : Fn K "changes" s_changes f fd) (hm : mg "changes" = some (.ref f)) (hb : Binds K fd ["one", "other"] []) : CalR P w K mg base CX0 4 "changes" (FD K A_changes) := by
  refine cal_fd 2 [] F hm sc_changes hb .nil rfl rfl (fun δa q hA => by simp only [A_changes] at hA; (repeat obtain ⟨_, hA⟩ := hA); simp only [*, List.length_cons, List.length_nil]) fun cdv Ar outer s H E hG hr => ?_
  have hu : (Ar.deeper (envOfC "changes" (defScope s_changes) s.heap.objs.size f cdv)).units + 65 < cLine := by have := hr.un; omega
  refine ⟨_, (pss_cons (ps_expr (pe_cal c_check_row hG (hr.mono (by decide)) pass0 (pa_cons (pv 0) pa_nil))) (pss_cons (ps_expr (pe_cal c_check_row hG (hr.mono (by decide)) pass0 (pa_cons (pv 1) pa_nil))) (pss_one (ps_ret (pe_callTy (k_tup (K := K) rfl) (by rfl) T.z_tuple (by decide +kernel) (pa_cons (pe_cal c_blocks_of hG (hr.mono (by decide)) pass0 (pa_cons (pv 0) (pa_cons (pv 1) pa_nil))) pa_nil)))))), fun δa q hA => ?_⟩
  obtain ⟨one, other, rfl, h1, h2, h⟩ := hA
  change Es K _ [_, _] _
  walk_at "go"
  refine ⟨one, rfl, h1, trivial, ?_⟩
  walk_at "nrm"
  walk_at "go"
  refine ⟨other, rfl, h2, trivial, ?_⟩
  walk_at "nrm"
  walk_at "go"
  refine ⟨one, other, rfl, h1, h2, trivial, ?_⟩
  walk_at "nrm"
  walk_at "go"
  exact ⟨_, rfl, h⟩
end
end Ek

namespace Ek
open PySem PySem.Spec PyProof.Rows L2 StX
local macro_rules
  | `(tactic| walk_at "nrm") => `(tactic| dsimp only [asgS, bks2, bk1, List.set_cons_zero, List.set_cons_succ, List.set_nil, wipeS, Sl.put, List.getElem?_cons_zero, List.getElem?_cons_succ, List.getElem?_nil, Option.getD_some, Option.getD_none, reduceIte, Nat.reduceEqDiff, List.map_nil, List.map_cons, List.nil_append, List.cons_append, List.replicate])
local macro_rules
  | `(tactic| walk_at "go1") => `(tactic| first
    | with_reducible refine es_seq ?_
    | with_reducible refine es_ret ?_
    | with_reducible refine es_retN ?_
    | with_reducible refine es_drop ?_
    | with_reducible refine es_asg ?_
    | with_reducible refine es_next ?_
    | with_reducible refine es_brk ?_
    | with_reducible refine es_cont ?_
    | with_reducible refine es_if ?_
    | with_reducible refine es_par ?_
    | with_reducible refine es_par3 ?_
    | with_reducible refine ev_op ?_
    | with_reducible refine ev_cb ?_
    | with_reducible refine ev_sl ?_
    | with_reducible refine eo_no ?_
    | with_reducible refine eo_pt ?_
    | with_reducible refine ea_cons ?_
    | with_reducible refine ea_nil ?_
    | with_reducible refine ea_star ?_
    | with_reducible refine ev_tup ?_
    | with_reducible refine ev_lst ?_
    | ((with_reducible refine ev_c (d := ?_) ?_ ?_); rotate_left; · rfl)
    | ((with_reducible refine ev_im (d := ?_) ?_ ?_); rotate_left; · rfl)
    | ((with_reducible refine ev_bo (s := ?_) ?_ ?_ ?_); rotate_left; (· rfl); (· rfl))
    | with_reducible refine ev_andV ?_
    | with_reducible refine ev_orV ?_
    | with_reducible refine ev_notV ?_
    | with_reducible refine ev_if ?_
    | with_reducible refine ev_neg ?_
    | with_reducible refine ev_isN ?_
    | with_reducible refine ev_notN ?_
    | with_reducible refine ev_cal2 ?_
    | refine Exists.intro _ (And.intro (a := Ags _ _ _ = some _) rfl (And.intro (a := ndB _ = true) rfl ?_))
    | with_reducible refine ev_chainI (fun _ _ => rfl) ?_
    | with_reducible refine et_test ?_
    | with_reducible refine et_val ?_
    | with_reducible refine et_and ?_
    | with_reducible refine et_or ?_
    | with_reducible refine et_not ?_
    | with_reducible refine ap_addI ?_
    | with_reducible refine ap_sub ?_
    | with_reducible refine ap_lt ?_
    | with_reducible refine ap_le ?_
    | with_reducible refine ap_gt ?_
    | with_reducible refine ap_ge ?_
    | with_reducible refine ap_eqI ?_
    | with_reducible refine ap_neI ?_
    | with_reducible refine ap_eqS ?_
    | with_reducible refine ap_neS ?_
    | with_reducible refine ap_max ?_
    | with_reducible refine ap_max3 ?_
    | with_reducible refine ap_min ?_
    | with_reducible refine ap_abs ?_
    | with_reducible refine ap_int ?_
    | with_reducible refine ap_intB ?_
    | ((with_reducible refine ap_len (ds := ?_) ?_ ?_); rotate_left; · rfl)
    | with_reducible refine ap_slT ?_
    | with_reducible refine ap_addT ?_ ?_
    | with_reducible refine ap_inS ?_
    | with_reducible refine ap_tupT ?_
    | ((with_reducible refine ap_tupL (ds := ?_) ?_ ?_); rotate_left; · rfl)
    | ((with_reducible refine ap_list (ds := ?_) ?_ ?_); rotate_left; · rfl)
    | refine ap_isi (b := true) rfl rfl (by decide +kernel) ?_
    | refine ap_isi (b := false) rfl rfl (by decide +kernel) ?_
    | with_reducible refine et_yes ?_
    | refine And.intro (a := List.length _ ≤ sizeLine) (of_decide_eq_true rfl) ?_
    | refine ap_ixO (i := 0) rfl rfl ?_
    | refine ap_ixO (i := 1) rfl rfl ?_
    | refine ap_ixO (i := 2) rfl rfl ?_
    | refine ap_ixO (i := 0) rfl (atI_nat (j := 0) rfl) ?_
    | with_reducible refine ei_any ?_
    | with_reducible refine ei_rng1 ?_
    | with_reducible refine ei_rng2 ?_
    | with_reducible refine ei_rng3 ?_
    | with_reducible refine ei_enumT ?_
    | with_reducible refine ⟨fun _ => ?_, fun (e : true = false) => nomatch e⟩
    | refine ⟨fun (e : (!true) = true) => Bool.noConfusion (show false = true from e), fun _ => ?_⟩
    | refine ⟨fun _ => ?_, fun (e : (!false) = false) => Bool.noConfusion (show true = false from e)⟩
    | with_reducible refine ⟨fun (e : false = true) => nomatch e, fun _ => ?_⟩
    | (with_reducible refine ⟨_, rfl, ?_⟩))
local macro_rules
  | `(tactic| walk_at "go") => `(tactic| repeat walk_at "go1")

theorem es_cutE {K : PySem.W.Frag} {ts : TS} {δ : List Sl} {N : Nd} (g : Sl → List Sl) (h : Es K ts δ { nx := fun δ' => ∃ x, δ' = g x, rt := fun _ _ => False }) (p : ∀ x, N.nx (g x)) : Es K ts δ N :=
  h.mono fun W D hD => ⟨fun F H σ δ' ⟨x, e⟩ S => by subst e; exact hD.1 F H σ _ (p x) S, fun F H σ v r δ' e => e.elim, fun F H σ δ' e => e.elim, fun F H σ δ' e => e.elim⟩
theorem tup_ok (n : Nat) (lo hi : Int) (h1 : lo ≤ n) (h2 : (n : Int) ≤ hi) : (decide (lo ≤ (n : Int)) && decide ((n : Int) ≤ hi)) = true := by
  rw [decide_eq_true h1, decide_eq_true h2]; rfl
section
variable {P : Program} {w : World} {K : PySem.W.Frag} {mg : Str → Option Value} {base : Heap}
def A_is_block : Pr := fun δa q => ∃ b : Blk, δa = [.im (blkD b)] ∧ okB 40 b ∧ q (.im (.bl true)) δa
set_option maxHeartbeats 4000000 in
theorem ok_is_block (T : Tx mg) (c_is_text : CalR P w K mg base CX0 1 "is_text" (FD K A_is_text)) (c_is_tuple : CalR P w K mg base CX0 1 "is_tuple" (FD K A_is_tuple)) {f : Addr} {fd : FuncData} (F : Fn K "is_block" s_is_block f fd) (hm : mg "is_block" = some (.ref f)) (hb : Binds K fd ["value"] []) : CalR P w K mg base CX0 2 "is_block" (FD K A_is_block) := by
  refine cal_fd 1 [] F hm sc_is_block hb .nil rfl rfl (fun δa q hA => by simp only [A_is_block] at hA; (repeat obtain ⟨_, hA⟩ := hA); simp only [*, List.length_cons, List.length_nil]) fun cdv Ar outer s H E hG hr => ?_
  have hu : (Ar.deeper (envOfC "is_block" (defScope s_is_block) s.heap.objs.size f cdv)).units + 65 < cLine := by have := hr.un; omega
  refine ⟨_, (pss_cons (ps_if (PW.pt (pw_or (pt_not (pt_val (pe_cal c_is_tuple hG (hr.mono (by decide)) pass0 (pa_cons (pv 0) (pa_cons pe_int (pa_cons pe_int pa_nil)))))) (pw_or1 (pt_not (pt_val (pe_callB (k_isi (K := K) rfl) (by rfl) T.z_isinstance (by decide +kernel) (pa_cons (pe_ix (k_ix (K := K) rfl hu) (pv 0) pe_int (fun _ _ => rfl)) (pa_cons (pe_bltn (v := .ty "str") rfl T.z_str (by decide +kernel) rfl) pa_nil)))))))) (pss_one (ps_ret pe_bl)) pss_nil) (pss_cons (ps_if (pt_cmpR (k_eq (K := K) rfl hu) (pe_ix (k_ix (K := K) rfl hu) (pv 0) pe_int (fun _ _ => rfl)) (pe_glob (v := .str "keep") rfl T.c_KEEP.choose_spec ⟨_, rfl⟩) (nomark _)) (pss_one (ps_ret (pe_and (pe_cmpR (k_eq (K := K) rfl hu) (pe_callB (k_len (K := K) rfl) (by rfl) T.z_len (by decide +kernel) (pa_cons (pv 0) pa_nil)) pe_int (nomark _)) (pe_and (pe_callB (k_isi (K := K) rfl) (by rfl) T.z_isinstance (by decide +kernel) (pa_cons (pe_ix (k_ix (K := K) rfl hu) (pv 0) pe_int (fun _ _ => rfl)) (pa_cons (pe_bltn (v := .ty "int") rfl T.z_int (by decide +kernel) rfl) pa_nil))) (pe_and (pe_not (pe_callB (k_isi (K := K) rfl) (by rfl) T.z_isinstance (by decide +kernel) (pa_cons (pe_ix (k_ix (K := K) rfl hu) (pv 0) pe_int (fun _ _ => rfl)) (pa_cons (pe_bltn (v := .ty "bool") rfl T.z_bool (by decide +kernel) rfl) pa_nil)))) (pe_one (pe_cmpR op_gt (pe_ix (k_ix (K := K) rfl hu) (pv 0) pe_int (fun _ _ => rfl)) pe_int (nomark _)))))))) pss_nil) (pss_cons (ps_if (PW.pt (pw_or (pt_cmpR (k_ne (K := K) rfl hu) (pe_ix (k_ix (K := K) rfl hu) (pv 0) pe_int (fun _ _ => rfl)) (pe_glob (v := .str "turn") rfl T.c_TURN.choose_spec ⟨_, rfl⟩) (nomark _)) (pw_or (pt_cmpR (k_ne (K := K) rfl hu) (pe_callB (k_len (K := K) rfl) (by rfl) T.z_len (by decide +kernel) (pa_cons (pv 0) pa_nil)) pe_int (nomark _)) (pw_or1 (pt_not (pt_val (pe_callB (k_all (K := K) rfl rfl) (by rfl) T.z_all (by decide +kernel) (pa_cons (pe_lc (own := [("part", 2)]) rfl sc_is_block.nd (k_iany (K := K) rfl (pe_slice (k_sl (K := K) rfl) (pv 0) (po_some pe_int) po_none)) (blkOk_by (N := ["value", "text", "part"]) (sc := defScope s_is_block) (by decide +kernel)) (fun _ _ _ _ _ => (pg_name (i := 2) sc_is_block.nd rfl (Or.inl rfl))) (fun _ _ _ _ _ => pts_nil) (fun _ _ _ _ _ => (pe_cal c_is_tuple hG (hr.mono (by decide)) pass0 (pa_cons (pv 2) (pa_cons pe_int (pa_cons (pe_glob (v := .int 40) rfl T.c_MOST_ROW.choose_spec ⟨_, rfl⟩) pa_nil)))))) pa_nil)))))))) (pss_one (ps_ret pe_bl)) pss_nil) (pss_one (ps_ret (pe_callB (k_all (K := K) rfl rfl) (by rfl) T.z_all (by decide +kernel) (pa_cons (pe_lc (own := [("text", 1)]) rfl sc_is_block.nd (k_iany (K := K) rfl (pe_tup (k_star (K := K) rfl (pe_ix (k_ix (K := K) rfl hu) (pv 0) pe_int (fun _ _ => rfl)) (k_star (K := K) rfl (pe_ix (k_ix (K := K) rfl hu) (pv 0) pe_int (fun _ _ => rfl)) pa_nil)))) (blkOk_by (N := ["value", "text", "part"]) (sc := defScope s_is_block) (by decide +kernel)) (fun _ _ _ _ _ => (pg_name (i := 1) sc_is_block.nd rfl (Or.inl rfl))) (fun _ _ _ _ _ => pts_nil) (fun _ _ _ _ _ => (pe_cal c_is_text hG (hr.mono (by decide)) pass0 (pa_cons (pv 1) (pa_cons (pe_glob (v := .int 100) rfl T.c_MOST_PIECE.choose_spec ⟨_, rfl⟩) pa_nil))))) pa_nil))))))), fun δa q hA => ?_⟩
  obtain ⟨b, rfl, hb', h⟩ := hA
  cases b with
  | keep c =>
    have hc : 0 < c := hb'
    change Es K _ [.im (.tup [.str "keep", .int c]), .un, .un] _
    walk_at "go"
    refine ⟨_, 2, 3, rfl, trivial, ?_⟩
    walk_at "nrm"
    rw [tup_ok _ _ _ (by simp) (by simp)]
    walk_at "go"
    walk_at "nrm"
    walk_at "go"
    have : decide ((0 : Int) < (c : Int)) = true := decide_eq_true (by omega)
    rw [this]
    exact ⟨_, rfl, h⟩
  | turn a b =>
    obtain ⟨l1, l2, o1, o2⟩ := hb'
    change Es K _ [.im (.tup [.str "turn", rowD a, rowD b]), .un, .un] _
    walk_at "go"
    refine ⟨_, 2, 3, rfl, trivial, ?_⟩
    walk_at "nrm"
    rw [tup_ok _ _ _ (by simp) (by simp)]
    walk_at "go"
    try walk_at "nrm"
    walk_at "go"
    refine ev_lcN ?_
    walk_at "go"
    refine ⟨[2], fun _ => .bl true, rfl, rfl, by show (2 : Nat) < sizeLine; decide, fun i d hd => ?_, ?_⟩
    · have hd : ([rowD a, rowD b] : List Dt)[i]? = some d := hd
      have hd2 : ∃ xs : List Str, d = rowD xs ∧ xs.length ≤ 40 := by
        match i, hd with
        | 0, hd => exact ⟨a, (Option.some.inj hd).symm, l1⟩
        | 1, hd => exact ⟨b, (Option.some.inj hd).symm, l2⟩
        | i + 2, hd => simp at hd
      obtain ⟨xs, rfl, lx⟩ := hd2
      refine eg_name (of_decide_eq_true rfl) ?_
      walk_at "nrm"
      walk_at "go"
      refine ⟨_, 0, 40, rfl, trivial, ?_⟩
      rw [tup_ok _ _ _ (by omega) (by rw [List.length_map]; omega)]
      exact ⟨rfl, rfl⟩
    · walk_at "go"
      refine ap_all (bs := [true, true]) rfl ?_
      walk_at "go"
      refine ev_lcN ?_
      walk_at "go"
      refine ⟨(a ++ b).map .str, ?_, ?_, ?_⟩
      · rw [List.map_append]
        refine fds_im ?_
        have z := fds_im (ds := b.map Dt.str) (es := []) (rs := []) rfl
        rw [List.append_nil (as := b.map Dt.str)] at z
        exact z
      · rw [List.length_map, List.length_append]; exact Nat.le_trans (show _ ≤ 80 by omega) (by decide)
      refine ⟨_, rfl, ?_⟩
      refine ⟨[1], fun _ => .bl true, rfl, rfl, by rw [List.length_map, List.length_append]; exact Nat.lt_of_le_of_lt (show _ ≤ 80 by omega) (by decide), fun i d hd => ?_, ?_⟩
      · obtain ⟨z, hz, rfl⟩ := get_map hd
        have mz : okT 100 z := by
          rcases List.mem_append.mp (List.mem_of_getElem? hz) with m | m
          · exact o1 z m
          · exact o2 z m
        refine eg_name (of_decide_eq_true rfl) ?_
        walk_at "nrm"
        walk_at "go"
        exact ⟨z, 100, rfl, by decide, mz, trivial, rfl, rfl⟩
      · walk_at "go"
        refine ap_all (bs := List.replicate ((a ++ b).map Dt.str).length true) ?_ ?_
        · exact congrArg some (map_true _)
        · rw [all_rep]
          exact ⟨_, rfl, h⟩
def A_is_changes : Pr := fun δa q => ∃ bl : List Blk, δa = [.im (.tup (bl.map blkD))] ∧ bl.length ≤ 81 ∧ (∀ b ∈ bl, okB 40 b) ∧ q (.im (.bl true)) δa
set_option maxHeartbeats 4000000 in
theorem ok_is_changes (T : Tx mg) (c_is_block : CalR P w K mg base CX0 2 "is_block" (FD K A_is_block)) (c_is_tuple : CalR P w K mg base CX0 1 "is_tuple" (FD K A_is_tuple)) {f : Addr} {fd : FuncData} (F : Fn K "is_changes" s_is_changes f fd) (hm : mg "is_changes" = some (.ref f)) (hb : Binds K fd ["value"] []) : CalR P w K mg base CX0 3 "is_changes" (FD K A_is_changes) := by
  refine cal_fd 1 [] F hm sc_is_changes hb .nil rfl rfl (fun δa q hA => by simp only [A_is_changes] at hA; (repeat obtain ⟨_, hA⟩ := hA); simp only [*, List.length_cons, List.length_nil]) fun cdv Ar outer s H E hG hr => ?_
  have hu : (Ar.deeper (envOfC "is_changes" (defScope s_is_changes) s.heap.objs.size f cdv)).units + 65 < cLine := by have := hr.un; omega
  refine ⟨_, (pss_one (ps_ret (pe_and (pe_cal c_is_tuple hG (hr.mono (by decide)) pass0 (pa_cons (pv 0) (pa_cons pe_int (pa_cons (pe_op (k_add (K := K) rfl) (pe_op (k_mul (K := K) rfl) pe_int (pe_glob (v := .int 40) rfl T.c_MOST_ROW.choose_spec ⟨_, rfl⟩)) pe_int) pa_nil)))) (pe_one (pe_callB (k_all (K := K) rfl rfl) (by rfl) T.z_all (by decide +kernel) (pa_cons (pe_lc (own := [("block", 1)]) rfl sc_is_changes.nd (k_iany (K := K) rfl (pv 0)) (blkOk_by (N := ["value", "block"]) (sc := defScope s_is_changes) (by decide +kernel)) (fun _ _ _ _ _ => (pg_name (i := 1) sc_is_changes.nd rfl (Or.inl rfl))) (fun _ _ _ _ _ => pts_nil) (fun _ _ _ _ _ => (pe_cal c_is_block hG (hr.mono (by decide)) pass0 (pa_cons (pv 1) pa_nil)))) pa_nil)))))), fun δa q hA => ?_⟩
  obtain ⟨bl, rfl, hl, hb', h⟩ := hA
  change Es K _ [_, Sl.un] _
  walk_at "go"
  refine ap_mulI (cm (by decide) (by decide)) ?_
  walk_at "go"
  refine ⟨_, 0, 81, rfl, trivial, ?_⟩
  walk_at "nrm"
  rw [tup_ok _ _ _ (by omega) (by rw [List.length_map]; omega)]
  walk_at "go"
  refine ev_lcN ?_
  walk_at "go"
  refine ⟨[1], fun _ => .bl true, rfl, rfl, by rw [List.length_map]; exact Nat.lt_of_le_of_lt hl (by decide), fun i d hd => ?_, ?_⟩
  · obtain ⟨b, hz, rfl⟩ := get_map hd
    refine eg_name (of_decide_eq_true rfl) ?_
    walk_at "nrm"
    walk_at "go"
    exact ⟨b, rfl, hb' b (List.mem_of_getElem? hz), trivial, rfl, rfl⟩
  · walk_at "go"
    refine ap_all (bs := List.replicate (bl.map blkD).length true) ?_ ?_
    · exact congrArg some (map_true _)
    · rw [all_rep]
      exact ⟨_, rfl, h⟩
def A_changed : Pr := fun δa q => ∃ (row : List Str) (bl : List Blk) (out : List Str), δa = [.im (rowD row), .im (.tup (bl.map blkD))] ∧ okR row ∧ bl.length ≤ 81 ∧ (∀ b ∈ bl, okB 40 b) ∧ apB row bl 0 = some out ∧ out.length ≤ 1000 ∧ q (.im (rowD out)) δa
set_option maxHeartbeats 4000000 in
theorem ok_changed (T : Tx mg) (c_check_row : CalR P w K mg base CX0 2 "check_row" (FD K A_check_row)) (c_is_changes : CalR P w K mg base CX0 3 "is_changes" (FD K A_is_changes)) {f : Addr} {fd : FuncData} (F : Fn K "changed" s_changed f fd) (hm : mg "changed" = some (.ref f)) (hb : Binds K fd ["row", "value"] []) : CalR P w K mg base CX0 4 "changed" (FD K A_changed) := by
  refine cal_fd 2 [] F hm sc_changed hb .nil rfl rfl (fun δa q hA => by simp only [A_changed] at hA; (repeat obtain ⟨_, hA⟩ := hA); simp only [*, List.length_cons, List.length_nil]) fun cdv Ar outer s H E hG hr => ?_
  have hu : (Ar.deeper (envOfC "changed" (defScope s_changed) s.heap.objs.size f cdv)).units + 65 < cLine := by have := hr.un; omega
  refine ⟨_, (pss_cons (ps_expr (pe_cal c_check_row hG (hr.mono (by decide)) pass0 (pa_cons (pv 0) pa_nil))) (pss_cons (ps_if (pt_not (pt_val (pe_cal c_is_changes hG (hr.mono (by decide)) pass0 (pa_cons (pv 1) pa_nil)))) (pss_one ps_never) pss_nil) (pss_cons (ps_par (i := 2) (j := 3) rfl sc_changed.nd rfl rfl (by decide) rfl rfl (pa_cons (pe_lst pa_nil) (pa_cons pe_int pa_nil)) rfl) (pss_cons (ps_for PassesOwn.never rfl (k_iany (K := K) rfl (pv 1)) (pg_name (i := 4) sc_changed.nd rfl (Or.inl rfl)) (pss_one (ps_if (pt_cmpR (k_eq (K := K) rfl hu) (pe_ix (k_ix (K := K) rfl hu) (pv 4) pe_int (fun _ _ => rfl)) (pe_glob (v := .str "keep") rfl T.c_KEEP.choose_spec ⟨_, rfl⟩) (nomark _)) (pss_cons (ps_if (pt_cmpR op_gt (pe_op (k_add (K := K) rfl) (pv 3) (pe_ix (k_ix (K := K) rfl hu) (pv 4) pe_int (fun _ _ => rfl))) (pe_callB (k_len (K := K) rfl) (by rfl) T.z_len (by decide +kernel) (pa_cons (pv 0) pa_nil)) (nomark _)) (pss_one ps_never) pss_nil) (pss_cons (ps_expr (k_bm (K := K) rfl PySem.F.plainAttrs_list PySem.F.slot_list_extend PySem.F.type_list_extend (k_ext (K := K) rfl) (pv 2) (pa_cons (pe_slice (k_sl (K := K) rfl) (pv 0) (po_some (pv 3)) (po_some (pe_op (k_add (K := K) rfl) (pv 3) (pe_ix (k_ix (K := K) rfl hu) (pv 4) pe_int (fun _ _ => rfl))))) pa_nil))) (pss_one (ps_set (i := 3) sc_changed.nd rfl (Or.inl rfl) (pe_op (k_add (K := K) rfl) (pv 3) (pe_ix (k_ix (K := K) rfl hu) (pv 4) pe_int (fun _ _ => rfl))))))) (pss_cons (ps_if (pt_cmpR (k_ne (K := K) rfl hu) (pe_slice (k_sl (K := K) rfl) (pv 0) (po_some (pv 3)) (po_some (pe_op (k_add (K := K) rfl) (pv 3) (pe_callB (k_len (K := K) rfl) (by rfl) T.z_len (by decide +kernel) (pa_cons (pe_ix (k_ix (K := K) rfl hu) (pv 4) pe_int (fun _ _ => rfl)) pa_nil))))) (pe_ix (k_ix (K := K) rfl hu) (pv 4) pe_int (fun _ _ => rfl)) (nomark _)) (pss_one ps_never) pss_nil) (pss_cons (ps_expr (k_bm (K := K) rfl PySem.F.plainAttrs_list PySem.F.slot_list_extend PySem.F.type_list_extend (k_ext (K := K) rfl) (pv 2) (pa_cons (pe_ix (k_ix (K := K) rfl hu) (pv 4) pe_int (fun _ _ => rfl)) pa_nil))) (pss_one (ps_set (i := 3) sc_changed.nd rfl (Or.inl rfl) (pe_op (k_add (K := K) rfl) (pv 3) (pe_callB (k_len (K := K) rfl) (by rfl) T.z_len (by decide +kernel) (pa_cons (pe_ix (k_ix (K := K) rfl hu) (pv 4) pe_int (fun _ _ => rfl)) pa_nil)))))))))) (pss_cons (ps_if (pt_cmpR (k_ne (K := K) rfl hu) (pv 3) (pe_callB (k_len (K := K) rfl) (by rfl) T.z_len (by decide +kernel) (pa_cons (pv 0) pa_nil)) (nomark _)) (pss_one ps_never) pss_nil) (pss_one (ps_ret (pe_callTy (k_tup (K := K) rfl) (by rfl) T.z_tuple (by decide +kernel) (pa_cons (pv 2) pa_nil))))))))), fun δa q hA => ?_⟩
  obtain ⟨row, bl, out, rfl, hr1, hl, hb', ha, ho, h⟩ := hA
  change Es K _ [_, _, Sl.un, Sl.un, Sl.un] _
  walk_at "go"
  refine ⟨row, rfl, hr1, trivial, ?_⟩
  walk_at "nrm"
  walk_at "go"
  refine ⟨bl, rfl, hl, hb', trivial, ?_⟩
  walk_at "nrm"
  walk_at "go"
  refine ⟨_, _, rfl, of_decide_eq_true rfl, of_decide_eq_true rfl, ?_⟩
  walk_at "nrm"
  refine es_seq (es_for ?_)
  walk_at "go"
  refine ⟨fun t δ' => ∃ (acc rest : List Str) (here : Nat) (x4 : Sl), δ' = [.im (rowD row), .im (.tup (bl.map blkD)), .ls (acc.map .str), .im (natD here), x4] ∧ apB row (bl.drop t) here = some rest ∧ out = acc ++ rest, [4], ⟨[], out, 0, _, rfl, ha, rfl⟩, fun t d δ' hd hI => ?_, fun δ' hI => ?_⟩
  · obtain ⟨acc, rest, here, x4, rfl, hp, ho2⟩ := hI
    obtain ⟨b, hb2, rfl⟩ := get_map hd
    obtain ⟨ht, eb⟩ := List.getElem?_eq_some_iff.mp hb2
    have ed : bl.drop t = b :: bl.drop (t + 1) := by rw [List.drop_eq_getElem_cons ht, eb]
    rw [ed] at hp
    have n1 := hr1.1
    have lo2 := congrArg List.length ho2
    rw [List.length_append] at lo2
    refine eg_name (of_decide_eq_true rfl) ?_
    walk_at "nrm"
    cases b with
    | keep c =>
      rw [apB] at hp
      by_cases hc : here + c ≤ row.length
      · rw [if_pos hc] at hp
        cases e : apB row (bl.drop (t + 1)) (here + c) with
        | none => rw [e] at hp; cases hp
        | some r2 =>
          rw [e] at hp
          have hp2 : sl row here (here + c) ++ r2 = rest := Option.some.inj hp
          have lp := congrArg List.length hp2
          rw [List.length_append] at lp
          change Es K _ [_, _, _, _, .im (.tup [.str "keep", .int c])] _
          walk_at "go"
          have e1 : decide (((row.map Dt.str).length : Int) < (here : Int) + (c : Int)) = false := decide_eq_false (by rw [List.length_map]; omega)
          rw [e1]
          walk_at "go"
          walk_at "nrm"
          refine ev_bm (i := 2) rfl rfl ?_
          walk_at "go"
          have ec : (here : Int) + (c : Int) = ((here + c : Nat) : Int) := by omega
          rw [ec, cut_map]
          walk_at "go"
          refine mt_ext (ys := (sl row here (here + c)).map .str) rfl rfl (.inr rfl) (by rw [List.length_map, List.length_map]; exact Nat.le_trans (show _ ≤ 1000 by omega) (by decide)) ?_
          walk_at "nrm"
          walk_at "go"
          rw [ec]
          refine ⟨of_decide_eq_true rfl, ?_⟩
          walk_at "nrm"
          rw [← List.map_append]
          exact ⟨acc ++ sl row here (here + c), r2, here + c, _, rfl, e, by rw [ho2, ← hp2, List.append_assoc]⟩
      · rw [if_neg hc] at hp; cases hp
    | turn a b =>
      rw [apB] at hp
      by_cases hc : sl row here (here + a.length) = a
      · rw [if_pos hc] at hp
        cases e : apB row (bl.drop (t + 1)) (here + a.length) with
        | none => rw [e] at hp; cases hp
        | some r2 =>
          rw [e] at hp
          have hp2 : b ++ r2 = rest := Option.some.inj hp
          have lp := congrArg List.length hp2
          rw [List.length_append] at lp
          have oa : ∀ z ∈ a, okT 100 z := fun z hz => hr1.2 z (by rw [← hc] at hz; exact sl_mem hz)
          change Es K _ [_, _, _, _, .im (.tup [.str "turn", rowD a, rowD b])] _
          walk_at "go"
          have ec : (here : Int) + ((a.map Dt.str).length : Int) = ((here + a.length : Nat) : Int) := by rw [List.length_map]; omega
          rw [ec, cut_map, hc]
          walk_at "go"
          refine ap_neD (x := rowD a) (y := rowD a) rfl rfl (py_row a) (py_row a) (shaped_row oa) (shaped_row oa) ?_
          rw [eqv_row, decide_eq_true rfl]
          walk_at "go"
          try walk_at "nrm"
          walk_at "go"
          refine ev_bm (i := 2) rfl rfl ?_
          walk_at "go"
          refine mt_ext (ys := b.map .str) rfl rfl (.inr rfl) (by rw [List.length_map, List.length_map]; exact Nat.le_trans (show _ ≤ 1000 by omega) (by decide)) ?_
          walk_at "nrm"
          walk_at "go"
          rw [ec]
          refine ⟨of_decide_eq_true rfl, ?_⟩
          walk_at "nrm"
          rw [← List.map_append]
          exact ⟨acc ++ b, r2, here + a.length, _, rfl, e, by rw [ho2, ← hp2, List.append_assoc]⟩
      · rw [if_neg hc] at hp; cases hp
  · obtain ⟨acc, rest, here, x4, rfl, hp, ho2⟩ := hI
    rw [List.length_map, List.drop_length, apB] at hp
    by_cases hc : here = row.length
    · rw [if_pos hc] at hp
      have e : rest = [] := (Option.some.inj hp).symm
      rw [e, List.append_nil] at ho2
      walk_at "go"
      have e2 : (!decide ((here : Int) = ((row.map Dt.str).length : Int))) = false := by rw [hc, List.length_map]; simp
      rw [e2]
      walk_at "go"
      try walk_at "nrm"
      walk_at "go"
      rw [ho2] at h
      exact ⟨_, rfl, h⟩
    · rw [if_neg hc] at hp; cases hp
end
end Ek

namespace Ek
open PySem PySem.Spec PyProof.Rows L2 StX
local macro_rules
  | `(tactic| walk_at "nrm") => `(tactic| dsimp only [asgS, bks2, bk1, List.set_cons_zero, List.set_cons_succ, List.set_nil, wipeS, Sl.put, List.getElem?_cons_zero, List.getElem?_cons_succ, List.getElem?_nil, Option.getD_some, Option.getD_none, reduceIte, Nat.reduceEqDiff, List.map_nil, List.map_cons, List.nil_append, List.cons_append, List.replicate])
local macro_rules
  | `(tactic| walk_at "go1") => `(tactic| first
    | with_reducible refine es_seq ?_
    | with_reducible refine es_ret ?_
    | with_reducible refine es_retN ?_
    | with_reducible refine es_drop ?_
    | with_reducible refine es_asg ?_
    | with_reducible refine es_next ?_
    | with_reducible refine es_brk ?_
    | with_reducible refine es_cont ?_
    | with_reducible refine es_if ?_
    | with_reducible refine es_par ?_
    | with_reducible refine es_par3 ?_
    | with_reducible refine ev_op ?_
    | with_reducible refine ev_cb ?_
    | with_reducible refine ev_sl ?_
    | with_reducible refine eo_no ?_
    | with_reducible refine eo_pt ?_
    | with_reducible refine ea_cons ?_
    | with_reducible refine ea_nil ?_
    | with_reducible refine ea_star ?_
    | with_reducible refine ev_tup ?_
    | with_reducible refine ev_lst ?_
    | ((with_reducible refine ev_c (d := ?_) ?_ ?_); rotate_left; · rfl)
    | ((with_reducible refine ev_im (d := ?_) ?_ ?_); rotate_left; · rfl)
    | ((with_reducible refine ev_bo (s := ?_) ?_ ?_ ?_); rotate_left; (· rfl); (· rfl))
    | with_reducible refine ev_andV ?_
    | with_reducible refine ev_orV ?_
    | with_reducible refine ev_notV ?_
    | with_reducible refine ev_if ?_
    | with_reducible refine ev_neg ?_
    | with_reducible refine ev_isN ?_
    | with_reducible refine ev_notN ?_
    | with_reducible refine ev_cal2 ?_
    | refine Exists.intro _ (And.intro (a := Ags _ _ _ = some _) rfl (And.intro (a := ndB _ = true) rfl ?_))
    | with_reducible refine ev_chainI (fun _ _ => rfl) ?_
    | with_reducible refine et_test ?_
    | with_reducible refine et_val ?_
    | with_reducible refine et_and ?_
    | with_reducible refine et_or ?_
    | with_reducible refine et_not ?_
    | with_reducible refine ap_addI ?_
    | with_reducible refine ap_sub ?_
    | with_reducible refine ap_lt ?_
    | with_reducible refine ap_le ?_
    | with_reducible refine ap_gt ?_
    | with_reducible refine ap_ge ?_
    | with_reducible refine ap_eqI ?_
    | with_reducible refine ap_neI ?_
    | with_reducible refine ap_eqS ?_
    | with_reducible refine ap_neS ?_
    | with_reducible refine ap_max ?_
    | with_reducible refine ap_max3 ?_
    | with_reducible refine ap_min ?_
    | with_reducible refine ap_abs ?_
    | with_reducible refine ap_int ?_
    | with_reducible refine ap_intB ?_
    | ((with_reducible refine ap_len (ds := ?_) ?_ ?_); rotate_left; · rfl)
    | with_reducible refine ap_slT ?_
    | with_reducible refine ap_addT ?_ ?_
    | with_reducible refine ap_inS ?_
    | with_reducible refine ap_tupT ?_
    | ((with_reducible refine ap_tupL (ds := ?_) ?_ ?_); rotate_left; · rfl)
    | ((with_reducible refine ap_list (ds := ?_) ?_ ?_); rotate_left; · rfl)
    | refine ap_isi (b := true) rfl rfl (by decide +kernel) ?_
    | refine ap_isi (b := false) rfl rfl (by decide +kernel) ?_
    | with_reducible refine et_yes ?_
    | refine And.intro (a := List.length _ ≤ sizeLine) (of_decide_eq_true rfl) ?_
    | refine ap_ixO (i := 0) rfl rfl ?_
    | refine ap_ixO (i := 1) rfl rfl ?_
    | refine ap_ixO (i := 2) rfl rfl ?_
    | refine ap_ixO (i := 0) rfl (atI_nat (j := 0) rfl) ?_
    | with_reducible refine ei_any ?_
    | with_reducible refine ei_rng1 ?_
    | with_reducible refine ei_rng2 ?_
    | with_reducible refine ei_rng3 ?_
    | with_reducible refine ei_enumT ?_
    | with_reducible refine ⟨fun _ => ?_, fun (e : true = false) => nomatch e⟩
    | refine ⟨fun (e : (!true) = true) => Bool.noConfusion (show false = true from e), fun _ => ?_⟩
    | refine ⟨fun _ => ?_, fun (e : (!false) = false) => Bool.noConfusion (show true = false from e)⟩
    | with_reducible refine ⟨fun (e : false = true) => nomatch e, fun _ => ?_⟩
    | (with_reducible refine ⟨_, rfl, ?_⟩))
local macro_rules
  | `(tactic| walk_at "go") => `(tactic| repeat walk_at "go1")

def blkP : Blk → PyData
  | .keep c => .tuple [.str "keep", .int c]
  | .turn a b => .tuple [.str "turn", rowP a, rowP b]
def okZ : Blk → Prop
  | .keep _ => True
  | .turn a b => (∀ z ∈ a, okT 100 z) ∧ ∀ z ∈ b, okT 100 z
theorem py_blk (b : Blk) : (blkD b).py = some (blkP b) := by
  cases b <;> simp only [blkD, blkP, Dt.py, Dt.pyAll, pyAll_str, Option.map_some]
theorem pyAll_blk : ∀ l : List Blk, Dt.pyAll (l.map blkD) = some (l.map blkP)
  | [] => rfl
  | b :: l => by simp only [List.map_cons, Dt.pyAll, py_blk, pyAll_blk l]
theorem strOk_keep : PyData.strOk "keep" = true := by decide +kernel
theorem strOk_turn : PyData.strOk "turn" = true := by decide +kernel
theorem canLay_blk {b : Blk} (h : okZ b) : PyData.canLay0 (blkP b) = true := by
  cases b with
  | keep c => simp [blkP, PyData.canLay0, PyData.canLayAll0, strOk_keep]
  | turn a b =>
    have z1 := SeqAt.canLay_of_shaped (shaped_row h.1)
    have z2 := SeqAt.canLay_of_shaped (shaped_row h.2)
    simp only [PyData.canLay0] at z1 z2
    simp [blkP, PyData.canLay0, PyData.canLayAll0, strOk_turn, z1, z2]
theorem depth_blk (b : Blk) : PyData.depth (blkP b) ≤ 2 := by
  cases b with
  | keep c => simp [blkP, PyData.depth, PyData.depthAll]
  | turn a b => simp [blkP, PyData.depth, PyData.depthAll, depth_str]
theorem canLayAll_blk : ∀ {l : List Blk}, (∀ b ∈ l, okZ b) → PyData.canLayAll0 (l.map blkP) = true
  | [], _ => by simp [PyData.canLayAll0]
  | b :: l, h => by
    simp only [List.map_cons, PyData.canLayAll0, canLay_blk (h b (List.mem_cons_self ..)), canLayAll_blk fun c hc => h c (List.mem_cons_of_mem _ hc), Bool.and_self]
theorem depthAll_blk : ∀ l : List Blk, PyData.depthAll (l.map blkP) ≤ 2
  | [] => by simp [PyData.depthAll]
  | b :: l => Nat.max_le.mpr ⟨depth_blk b, depthAll_blk l⟩
theorem shaped_blk {l : List Blk} (h : ∀ b ∈ l, okZ b) : SeqAt.shaped (.list (l.map blkP)) = true := by
  have := depthAll_blk l
  unfold SeqAt.shaped
  rw [Bool.and_eq_true]
  refine ⟨by simp only [PyData.canLay0, canLayAll_blk h], decide_eq_true ?_⟩
  show PyData.depth (.list (l.map blkP)) ≤ 64
  rw [PyData.depth]
  omega
def stL (one other : List Str) (t : Nat) : List Blk × Nat × Nat := ((allP one other).take t).foldl (stepL one other) ([], 0, 0)
theorem stL_next {one other : List Str} {t : Nat} {p : Nat × Nat} (h : (allP one other)[t]? = some p) : stL one other (t + 1) = stepL one other (stL one other t) p := by
  unfold stL
  rw [List.take_add_one, h, Option.toList_some, List.foldl_append]
  rfl
theorem addK_ok {f : List Blk} (h : ∀ b ∈ f, okZ b) : ∀ b ∈ addK f, okZ b := fun b hb => by
  unfold addK at hb
  split at hb
  · rcases List.mem_append.mp hb with z | z
    · exact h b ((List.dropLast_sublist f).subset z)
    · rw [show b = _ from by simpa using z]; trivial
  · rcases List.mem_append.mp hb with z | z
    · exact h b z
    · rw [show b = _ from by simpa using z]; trivial
theorem addK_len (f : List Blk) : (addK f).length ≤ f.length + 1 := by
  unfold addK
  split
  · rw [List.length_append, List.length_dropLast, List.length_singleton]; omega
  · rw [List.length_append, List.length_singleton]
    exact Nat.le_refl _
theorem stL_ok {one other : List Str} (o1 : ∀ z ∈ one, okT 100 z) (o2 : ∀ z ∈ other, okT 100 z) : ∀ t, (∀ b ∈ (stL one other t).1, okZ b) ∧ (stL one other t).1.length ≤ 2 * t
  | 0 => ⟨fun b hb => (by cases hb), Nat.le_refl _⟩
  | t + 1 => by
    obtain ⟨h1, h2⟩ := stL_ok o1 o2 t
    cases h : (allP one other)[t]? with
    | none =>
      have : stL one other (t + 1) = stL one other t := by
        unfold stL
        rw [List.take_add_one, h]; simp
      rw [this]
      exact ⟨h1, by omega⟩
    | some p =>
      rw [stL_next h]
      generalize stL one other t = s at h1 h2 ⊢
      have k1 : (∀ b ∈ (if s.2.1 < p.1 ∨ s.2.2 < p.2 then s.1 ++ [Blk.turn (sl one s.2.1 p.1) (sl other s.2.2 p.2)] else s.1), okZ b) ∧ (if s.2.1 < p.1 ∨ s.2.2 < p.2 then s.1 ++ [Blk.turn (sl one s.2.1 p.1) (sl other s.2.2 p.2)] else s.1).length ≤ 2 * t + 1 := by
        split
        · refine ⟨fun b hb => ?_, by rw [List.length_append, List.length_singleton]; omega⟩
          rcases List.mem_append.mp hb with z | z
          · exact h1 b z
          · rw [show b = _ from by simpa using z]
            exact ⟨fun z hz => o1 z (sl_mem hz), fun z hz => o2 z (sl_mem hz)⟩
        · exact ⟨h1, by omega⟩
      unfold stepL
      dsimp only
      split
      · exact ⟨addK_ok k1.1, by have := addK_len (if s.2.1 < p.1 ∨ s.2.2 < p.2 then s.1 ++ [Blk.turn (sl one s.2.1 p.1) (sl other s.2.2 p.2)] else s.1); have := k1.2; omega⟩
      · exact ⟨k1.1, by have := k1.2; omega⟩
section
variable {P : Program} {w : World} {K : PySem.W.Frag} {mg : Str → Option Value} {base : Heap}
def A__law_blocks : Pr := fun δa q => ∃ one other : List Str, δa = [.im (rowD one), .im (rowD other)] ∧ okR one ∧ okR other ∧ q (.im (.tup ((blocks one other).map blkD))) δa
set_option maxHeartbeats 4000000 in
theorem ok__law_blocks (T : Tx mg) (c__law_pairs : CalR P w K mg base CX0 2 "_law_pairs" (FD K A__law_pairs)) {f : Addr} {fd : FuncData} (F : Fn K "_law_blocks" s__law_blocks f fd) (hm : mg "_law_blocks" = some (.ref f)) (hb : Binds K fd ["one", "other"] []) : CalR P w K mg base CX0 3 "_law_blocks" (FD K A__law_blocks) := by
  refine cal_fd 2 [] F hm sc__law_blocks hb .nil rfl rfl (fun δa q hA => by simp only [A__law_blocks] at hA; (repeat obtain ⟨_, hA⟩ := hA); simp only [*, List.length_cons, List.length_nil]) fun cdv Ar outer s H E hG hr => ?_
  have hu : (Ar.deeper (envOfC "_law_blocks" (defScope s__law_blocks) s.heap.objs.size f cdv)).units + 65 < cLine := by have := hr.un; omega
  refine ⟨_, (pss_cons (ps_par3 (i := 2) (j := 3) (l := 4) rfl sc__law_blocks.nd rfl rfl rfl (by decide) (by decide) (by decide) rfl rfl rfl (pa_cons (pe_lst pa_nil) (pa_cons pe_int (pa_cons pe_int pa_nil))) rfl) (pss_cons (ps_for PassesOwn.never rfl (k_iany (K := K) rfl (pe_op (k_add (K := K) rfl) (pe_cal c__law_pairs hG (hr.mono (by decide)) pass0 (pa_cons (pv 0) (pa_cons (pv 1) pa_nil))) (pe_lst (pa_cons (pe_tup (pa_cons (pe_callB (k_len (K := K) rfl) (by rfl) T.z_len (by decide +kernel) (pa_cons (pv 0) pa_nil)) (pa_cons (pe_callB (k_len (K := K) rfl) (by rfl) T.z_len (by decide +kernel) (pa_cons (pv 1) pa_nil)) pa_nil))) pa_nil)))) (k_gsq (K := K) rfl (n := 2) rfl (pgs_cons (pg_name (i := 5) sc__law_blocks.nd rfl (Or.inl rfl)) (pgs_cons (pg_name (i := 6) sc__law_blocks.nd rfl (Or.inl rfl)) pgs_nil))) (pss_cons (ps_if (PW.pt (pw_or (pt_cmpR op_gt (pv 5) (pv 3) (nomark _)) (pw_or1 (pt_cmpR op_gt (pv 6) (pv 4) (nomark _))))) (pss_one (ps_expr (k_bm (K := K) rfl PySem.F.plainAttrs_list PySem.F.slot_list_append PySem.F.type_list_append mt_append (pv 2) (pa_cons (pe_tup (pa_cons pe_str (pa_cons (pe_slice (k_sl (K := K) rfl) (pv 0) (po_some (pv 3)) (po_some (pv 5))) (pa_cons (pe_slice (k_sl (K := K) rfl) (pv 1) (po_some (pv 4)) (po_some (pv 6))) pa_nil)))) pa_nil)))) pss_nil) (pss_cons (ps_if (pt_cmpR op_lt (pv 5) (pe_callB (k_len (K := K) rfl) (by rfl) T.z_len (by decide +kernel) (pa_cons (pv 0) pa_nil)) (nomark _)) (pss_cons (ps_set (i := 7) sc__law_blocks.nd rfl (Or.inl rfl) (pe_ifExp (PW.pt (pw_and (pt_cmpR (k_ne (K := K) rfl hu) (pv 2) (pe_lst pa_nil) (nomark _)) (pw_and1 (pt_cmpR (k_eq (K := K) rfl hu) (pe_ix (k_ix (K := K) rfl hu) (pe_ix (k_ix (K := K) rfl hu) (pv 2) (pe_un un_neg pe_int) (fun _ _ => rfl)) pe_int (fun _ _ => rfl)) pe_str (nomark _))))) (pe_ix (k_ix (K := K) rfl hu) (k_bm0 (K := K) rfl PySem.F.plainAttrs_list PySem.F.slot_list_pop PySem.F.type_list_pop mt_pop (pv 2)) pe_int (fun _ _ => rfl)) pe_int)) (pss_one (ps_expr (k_bm (K := K) rfl PySem.F.plainAttrs_list PySem.F.slot_list_append PySem.F.type_list_append mt_append (pv 2) (pa_cons (pe_tup (pa_cons pe_str (pa_cons (pe_op (k_add (K := K) rfl) (pv 7) pe_int) pa_nil))) pa_nil))))) pss_nil) (pss_one (ps_par (i := 3) (j := 4) rfl sc__law_blocks.nd rfl rfl (by decide) rfl rfl (pa_cons (pe_op (k_add (K := K) rfl) (pv 5) pe_int) (pa_cons (pe_op (k_add (K := K) rfl) (pv 6) pe_int) pa_nil)) rfl))))) (pss_one (ps_ret (pe_callTy (k_tup (K := K) rfl) (by rfl) T.z_tuple (by decide +kernel) (pa_cons (pv 2) pa_nil)))))), fun δa q hA => ?_⟩
  obtain ⟨one, other, rfl, h1, h2, h⟩ := hA
  change Es K _ [_, _, Sl.un, Sl.un, Sl.un, Sl.un, Sl.un, Sl.un] _
  walk_at "go"
  refine ⟨_, _, _, rfl, of_decide_eq_true rfl, of_decide_eq_true rfl, of_decide_eq_true rfl, ?_⟩
  walk_at "nrm"
  refine es_seq (es_for ?_)
  walk_at "go"
  refine ⟨one, other, rfl, Nat.le_trans h1.1 (by decide), Nat.le_trans h2.1 (by decide), ⟨trivial, ?_⟩⟩
  walk_at "nrm"
  walk_at "go"
  have n1 := h1.1
  have n2 := h2.1
  have al := allP_len one other
  have ea : (prs one other).map prD ++ [Dt.tup [Dt.int ((one.map Dt.str).length : Int), Dt.int ((other.map Dt.str).length : Int)]] = (allP one other).map prD := by
    rw [← allP_D, List.length_map, List.length_map]
  refine ap_addL (xs := (prs one other).map prD) rfl rfl ?_ ?_
  · have l := congrArg List.length ea
    rw [List.length_append] at l
    rw [l, List.length_map]
    exact Nat.le_trans (show _ ≤ 41 by omega) (by decide)
  rw [ea]
  walk_at "go"
  refine ⟨fun t δ' => ∃ x5 x6 x7, δ' = [.im (rowD one), .im (rowD other), .ls ((stL one other t).1.map blkD), .im (natD (stL one other t).2.1), .im (natD (stL one other t).2.2), x5, x6, x7], [5, 6], ⟨_, _, _, rfl⟩, fun t d δ' hd hI => ?_, fun δ' hI => ?_⟩
  · obtain ⟨x5, x6, x7, rfl⟩ := hI
    obtain ⟨p, hp, rfl⟩ := get_map hd
    have sn := stL_next hp
    obtain ⟨ok1, lf⟩ := stL_ok h1.2 h2.2 t
    have lt : t < (allP one other).length := (List.getElem?_eq_some_iff.mp hp).1
    generalize stL one other t = s1 at lf sn ok1 ⊢
    obtain ⟨f1, hh, tt⟩ := s1
    dsimp only at lf ok1
    refine eg_sqT rfl (egs_cons (eg_name (of_decide_eq_true rfl) (egs_cons (eg_name (of_decide_eq_true rfl) (egs_nil ?_)))))
    walk_at "nrm"
    have sz : ∀ m, m ≤ 200 → m < sizeLine := fun m hm => Nat.lt_of_le_of_lt hm (by decide)
    unfold stepL at sn
    dsimp only at sn
    refine es_seq (es_cut [.im (rowD one), .im (rowD other), .ls ((if hh < p.1 ∨ tt < p.2 then f1 ++ [Blk.turn (sl one hh p.1) (sl other tt p.2)] else f1).map blkD), .im (natD hh), .im (natD tt), .im (natD p.1), .im (natD p.2), x7] (es_if (et_cut (decide (hh < p.1 ∨ tt < p.2)) ?_ ?_)) ?_)
    · walk_at "go"
      refine ⟨fun q1 => ?_, fun q1 => ?_⟩
      · have q2 : hh < p.1 := by simpa using q1
        exact ⟨(decide_eq_true (.inl q2)).symm, rfl⟩
      · have q2 : ¬ hh < p.1 := by simpa using q1
        walk_at "go"
        refine ⟨?_, rfl⟩
        rw [decide_eq_decide]; omega
    · refine ⟨fun q1 => ?_, fun q1 => ?_⟩
      · have q2 : hh < p.1 ∨ tt < p.2 := of_decide_eq_true q1
        rw [if_pos q2]
        refine es_drop (ev_bm (i := 2) rfl rfl ?_)
        walk_at "go"
        rw [cut_map, cut_map]
        walk_at "go"
        refine mt_app rfl rfl rfl (sz _ (by rw [List.length_map]; omega)) ?_
        walk_at "nrm"
        rw [List.map_append]; rfl
      · have q2 : ¬ (hh < p.1 ∨ tt < p.2) := of_decide_eq_false q1
        rw [if_neg q2]
        walk_at "go"
        rfl
    · have lf2 : (if hh < p.1 ∨ tt < p.2 then f1 ++ [Blk.turn (sl one hh p.1) (sl other tt p.2)] else f1).length ≤ 2 * t + 1 := by
        split
        · rw [List.length_append, List.length_singleton]; omega
        · omega
      have ok2 : ∀ b ∈ (if hh < p.1 ∨ tt < p.2 then f1 ++ [Blk.turn (sl one hh p.1) (sl other tt p.2)] else f1), okZ b := by
        split
        · intro b hb
          rcases List.mem_append.mp hb with z | z
          · exact ok1 b z
          · rw [show b = _ from by simpa using z]
            exact ⟨fun z hz => h1.2 z (sl_mem hz), fun z hz => h2.2 z (sl_mem hz)⟩
        · exact ok1
      generalize (if hh < p.1 ∨ tt < p.2 then f1 ++ [Blk.turn (sl one hh p.1) (sl other tt p.2)] else f1) = f2 at lf2 ok2 sn ⊢
      refine es_seq (es_cutE (fun x => [.im (rowD one), .im (rowD other), .ls ((if p.1 < one.length then addK f2 else f2).map blkD), .im (natD hh), .im (natD tt), .im (natD p.1), .im (natD p.2), x]) ?_ fun x => ?_)
      · walk_at "go"
        refine ⟨fun q1 => ?_, fun q1 => ?_⟩
        · have q3 : (p.1 : Int) < ((one.map Dt.str).length : Int) := of_decide_eq_true q1
          have q2 : p.1 < one.length := by rw [List.length_map] at q3; omega
          rw [if_pos q2]
          rcases List.eq_nil_or_concat f2 with rfl | ⟨g, b, eg⟩
          · walk_at "go"
            refine ap_neD (x := .lst []) (y := .lst []) rfl rfl rfl rfl shaped_nil shaped_nil ?_
            rw [eqv_nil]
            walk_at "go"
            refine ⟨of_decide_eq_true rfl, ?_⟩
            walk_at "nrm"
            refine es_drop (ev_bm (i := 2) rfl rfl ?_)
            walk_at "go"
            refine mt_app rfl rfl rfl (by decide) ?_
            exact ⟨_, rfl⟩
          · rw [List.concat_eq_append] at eg
            subst eg
            have gl : (List.map blkD (g ++ [b])).length = g.length + 1 := by rw [List.length_map, List.length_append]; rfl
            have gg : (List.map blkD (g ++ [b]))[g.length]? = some (blkD b) := by rw [List.map_append, List.getElem?_append_right (by rw [List.length_map]; exact Nat.le_refl _), List.length_map, Nat.sub_self, List.map_cons, List.getElem?_cons_zero]
            rw [List.length_append] at lf2
            walk_at "go"
            refine ap_neD (x := .lst (List.map blkD (g ++ [b]))) (y := .lst []) rfl rfl (by simp only [Dt.py, pyAll_blk, Option.map_some]) rfl (shaped_blk ok2) shaped_nil ?_
            have e0 : PyData.eqv (.list ((g ++ [b]).map blkP)) (.list []) = false := by rw [eqv_nil]; simp
            rw [e0]
            walk_at "go"
            refine ap_ixO (i := -1) rfl (atI_last (k := g.length) gl gg) ?_
            walk_at "go"
            cases b with
            | keep c =>
              try refine ap_ixO (ds := [.str "keep", .int c]) (i := 0) rfl rfl ?_
              walk_at "go"
              refine ev_bm0 (i := 2) rfl rfl ?_
              refine mt_popL rfl rfl (d := blkD (.keep c)) (by rw [gl]; exact gg) ?_
              walk_at "nrm"
              have dl : (List.map blkD (g ++ [.keep c])).dropLast = g.map blkD := by rw [List.map_append]; simp
              rw [dl]
              walk_at "go"
              try refine ap_ixO (ds := [.str "keep", .int c]) (i := 1) rfl rfl ?_
              refine ⟨of_decide_eq_true rfl, ?_⟩
              walk_at "nrm"
              refine es_drop (ev_bm (i := 2) rfl rfl ?_)
              walk_at "go"
              refine mt_app rfl rfl rfl (sz _ (by rw [List.length_map]; omega)) ?_
              walk_at "nrm"
              refine ⟨.im (.int c), ?_⟩
              rw [addK_keep, List.map_append]; rfl
            | turn a b =>
              try refine ap_ixO (ds := [.str "turn", rowD a, rowD b]) (i := 0) rfl rfl ?_
              walk_at "go"
              refine ⟨of_decide_eq_true rfl, ?_⟩
              walk_at "nrm"
              refine es_drop (ev_bm (i := 2) rfl rfl ?_)
              walk_at "go"
              refine mt_app rfl rfl rfl (by rw [gl]; exact sz _ (by omega)) ?_
              walk_at "nrm"
              refine ⟨.im (.int 0), ?_⟩
              rw [addK_no noK_turn, List.map_append (l₁ := g ++ [Blk.turn a b])]; rfl
        · have q3 : ¬ (p.1 : Int) < ((one.map Dt.str).length : Int) := of_decide_eq_false q1
          have q2 : ¬ p.1 < one.length := by rw [List.length_map] at q3; omega
          rw [if_neg q2]
          walk_at "go"
          exact ⟨_, rfl⟩
      · walk_at "go"
        refine ⟨_, _, rfl, of_decide_eq_true rfl, of_decide_eq_true rfl, ?_⟩
        refine ⟨.im (natD p.1), .im (natD p.2), x, ?_⟩
        rw [sn]; rfl
  · obtain ⟨x5, x6, x7, rfl⟩ := hI
    rw [List.length_map]
    have eb := blocks_L one other
    have e2 : stL one other (allP one other).length = (allP one other).foldl (stepL one other) ([], 0, 0) := by unfold stL; rw [List.take_length]
    rw [← e2] at eb
    rw [← eb] at h
    walk_at "go"
    exact ⟨_, rfl, h⟩
end
end Ek

namespace Ek
open PySem PySem.Spec PyProof.Rows L2 StX
local macro_rules
  | `(tactic| walk_at "nrm") => `(tactic| dsimp only [asgS, bks2, bk1, List.set_cons_zero, List.set_cons_succ, List.set_nil, wipeS, Sl.put, List.getElem?_cons_zero, List.getElem?_cons_succ, List.getElem?_nil, Option.getD_some, Option.getD_none, reduceIte, Nat.reduceEqDiff, List.map_nil, List.map_cons, List.nil_append, List.cons_append, List.replicate])
local macro_rules
  | `(tactic| walk_at "go1") => `(tactic| first
    | with_reducible refine es_seq ?_
    | with_reducible refine es_ret ?_
    | with_reducible refine es_retN ?_
    | with_reducible refine es_drop ?_
    | with_reducible refine es_asg ?_
    | with_reducible refine es_next ?_
    | with_reducible refine es_brk ?_
    | with_reducible refine es_cont ?_
    | with_reducible refine es_if ?_
    | with_reducible refine es_par ?_
    | with_reducible refine es_par3 ?_
    | with_reducible refine ev_op ?_
    | with_reducible refine ev_cb ?_
    | with_reducible refine ev_sl ?_
    | with_reducible refine eo_no ?_
    | with_reducible refine eo_pt ?_
    | with_reducible refine ea_cons ?_
    | with_reducible refine ea_nil ?_
    | with_reducible refine ea_star ?_
    | with_reducible refine ev_tup ?_
    | with_reducible refine ev_lst ?_
    | ((with_reducible refine ev_c (d := ?_) ?_ ?_); rotate_left; · rfl)
    | ((with_reducible refine ev_im (d := ?_) ?_ ?_); rotate_left; · rfl)
    | ((with_reducible refine ev_bo (s := ?_) ?_ ?_ ?_); rotate_left; (· rfl); (· rfl))
    | with_reducible refine ev_andV ?_
    | with_reducible refine ev_orV ?_
    | with_reducible refine ev_notV ?_
    | with_reducible refine ev_if ?_
    | with_reducible refine ev_neg ?_
    | with_reducible refine ev_isN ?_
    | with_reducible refine ev_notN ?_
    | with_reducible refine ev_cal2 ?_
    | refine Exists.intro _ (And.intro (a := Ags _ _ _ = some _) rfl (And.intro (a := ndB _ = true) rfl ?_))
    | with_reducible refine ev_chainI (fun _ _ => rfl) ?_
    | with_reducible refine et_test ?_
    | with_reducible refine et_val ?_
    | with_reducible refine et_and ?_
    | with_reducible refine et_or ?_
    | with_reducible refine et_not ?_
    | with_reducible refine ap_addI ?_
    | with_reducible refine ap_sub ?_
    | with_reducible refine ap_lt ?_
    | with_reducible refine ap_le ?_
    | with_reducible refine ap_gt ?_
    | with_reducible refine ap_ge ?_
    | with_reducible refine ap_eqI ?_
    | with_reducible refine ap_neI ?_
    | with_reducible refine ap_eqS ?_
    | with_reducible refine ap_neS ?_
    | with_reducible refine ap_max ?_
    | with_reducible refine ap_max3 ?_
    | with_reducible refine ap_min ?_
    | with_reducible refine ap_abs ?_
    | with_reducible refine ap_int ?_
    | with_reducible refine ap_intB ?_
    | ((with_reducible refine ap_len (ds := ?_) ?_ ?_); rotate_left; · rfl)
    | with_reducible refine ap_slT ?_
    | with_reducible refine ap_addT ?_ ?_
    | with_reducible refine ap_inS ?_
    | with_reducible refine ap_tupT ?_
    | ((with_reducible refine ap_tupL (ds := ?_) ?_ ?_); rotate_left; · rfl)
    | ((with_reducible refine ap_list (ds := ?_) ?_ ?_); rotate_left; · rfl)
    | refine ap_isi (b := true) rfl rfl (by decide +kernel) ?_
    | refine ap_isi (b := false) rfl rfl (by decide +kernel) ?_
    | with_reducible refine et_yes ?_
    | refine And.intro (a := List.length _ ≤ sizeLine) (of_decide_eq_true rfl) ?_
    | refine ap_ixO (i := 0) rfl rfl ?_
    | refine ap_ixO (i := 1) rfl rfl ?_
    | refine ap_ixO (i := 2) rfl rfl ?_
    | refine ap_ixO (i := 0) rfl (atI_nat (j := 0) rfl) ?_
    | with_reducible refine ei_any ?_
    | with_reducible refine ei_rng1 ?_
    | with_reducible refine ei_rng2 ?_
    | with_reducible refine ei_rng3 ?_
    | with_reducible refine ei_enumT ?_
    | with_reducible refine ⟨fun _ => ?_, fun (e : true = false) => nomatch e⟩
    | refine ⟨fun (e : (!true) = true) => Bool.noConfusion (show false = true from e), fun _ => ?_⟩
    | refine ⟨fun _ => ?_, fun (e : (!false) = false) => Bool.noConfusion (show true = false from e)⟩
    | with_reducible refine ⟨fun (e : false = true) => nomatch e, fun _ => ?_⟩
    | (with_reducible refine ⟨_, rfl, ?_⟩))
local macro_rules
  | `(tactic| walk_at "go") => `(tactic| repeat walk_at "go1")

theorem es_par3G {K : PySem.W.Frag} {δ : List Sl} {N : Nd} {t : TA} {i j l : Nat} (h : Ea K t δ fun rs δ1 => ∃ s1 s2 s3, rs = [.sl s1, .sl s2, .sl s3] ∧ i < δ1.length ∧ j < δ1.length ∧ l < δ1.length ∧ N.nx (((δ1.set i s1).set j s2).set l s3)) :
    Es K (tAsg (tTup t) (gSq K 3 (gCons (gName i) (gCons (gName j) (gCons (gName l) gNil))))) δ N := fun W F H σ S D D1 => by
  refine h W F H σ [] S _ fun F1 H1 vs rs δ1 h1 oks S1 => ?_
  obtain ⟨s1, s2, s3, rfl, hi, hj, hl', n⟩ := h1
  have hl := oks.length
  match vs, hl, S1 with
  | [x, y, z], hl, S1 =>
    refine ⟨by show 3 ≤ sizeLine; decide, fun p hp => .inl ⟨p, [x, y, z], rfl, SqT.of upd_same, rfl, ?_⟩⟩
    refine ⟨x, _, rfl, y, _, rfl, z, _, rfl, rfl, D1.1 F1 _ _ _ n ?_⟩
    have S2 := S1.junk (o := .tup [x, y, z]) hp
    have A := S2.assignAt (k := 0) (v := x) (s := s1) (i := i) rfl hi
    have B := A.assignAt (k := 1) (v := y) (s := s2) (i := j) rfl (by rw [List.length_set]; exact hj)
    have C := B.assignAt (k := 2) (v := z) (s := s3) (i := l) rfl (by rw [List.length_set, List.length_set]; exact hl')
    exact C.drop (pd := [])
def stD (base one other : List Str) (i : Nat) : Dt := match stb base one other i with
  | some t => triD t
  | none => .non
theorem stab_D (base one other : List Str) : ((List.range base.length).filter fun i => (stb base one other i).isSome).map (stD base one other) = (stab base one other).map triD := by
  unfold stab
  have : ∀ l : List Nat, (l.filter fun i => (stb base one other i).isSome).map (stD base one other) = (l.filterMap (stb base one other)).map triD := fun l => by
    induction l with
    | nil => rfl
    | cons i l ih =>
      rw [List.filter_cons, List.filterMap_cons]
      cases e : stb base one other i with
      | none => simpa using ih
      | some t =>
        simp only [Option.isSome_some, if_true, List.map_cons, ih]
        congr 1
        unfold stD
        rw [e]
  exact this _
theorem stb_isSome (base one other : List Str) (i : Nat) : (stb base one other i).isSome = ((look (prs base one) i).isSome && (look (prs base other) i).isSome) := by
  unfold stb
  cases look (prs base one) i <;> cases look (prs base other) i <;> rfl
theorem allT_D (base one other : List Str) : (stab base one other).map triD ++ [triD (base.length, one.length, other.length)] = (allT base one other).map triD := by
  unfold allT; rw [List.map_append]; rfl
theorem allT_len (base one other : List Str) : (allT base one other).length ≤ base.length + 1 := by
  unfold allT stab
  rw [List.length_append]
  have := List.length_filterMap_le (stb base one other) (List.range base.length)
  rw [List.length_range] at this
  simp; omega
theorem dKs_len (l : List (Nat × Nat)) : (dKs l).length = l.length := by unfold dKs; rw [List.length_map]
theorem dEs_len (l : List (Nat × Nat)) : (dEs l).length = l.length := by unfold dEs; rw [List.length_map]
abbrev dicD (l : List (Nat × Nat)) : Dt := .dk (dKs l) (dEs l)
theorem dic_in (l : List (Nat × Nat)) (p : Nat) : (getK (dKs l) (dEs l) (.inl (p : Int))).isSome = (look l p).isSome := by
  rw [getK_look]; cases look l p <;> rfl
theorem dic_at {l : List (Nat × Nat)} {p a : Nat} (h : look l p = some a) : getK (dKs l) (dEs l) (.inl (p : Int)) = some (.int (a : Int)) := by
  rw [getK_look, h]; rfl
section
variable {P : Program} {w : World} {K : PySem.W.Frag} {mg : Str → Option Value} {base : Heap}
def A_stable_places : Pr := fun δa q => ∃ bs one other : List Str, δa = [.im (rowD bs), .im (rowD one), .im (rowD other)] ∧ okR bs ∧ okR one ∧ okR other ∧ q (.ls ((allT bs one other).map triD)) δa
set_option maxHeartbeats 4000000 in
theorem ok_stable_places (T : Tx mg) (c_pairs_of : CalR P w K mg base CX0 2 "pairs_of" (FD K A_pairs_of)) {f : Addr} {fd : FuncData} (F : Fn K "stable_places" s_stable_places f fd) (hm : mg "stable_places" = some (.ref f)) (hb : Binds K fd ["base", "one", "other"] []) : CalR P w K mg base CX0 3 "stable_places" (FD K A_stable_places) := by
  refine cal_fd 3 [] F hm sc_stable_places hb .nil rfl rfl (fun δa q hA => by simp only [A_stable_places] at hA; (repeat obtain ⟨_, hA⟩ := hA); simp only [*, List.length_cons, List.length_nil]) fun cdv Ar outer s H E hG hr => ?_
  have hu : (Ar.deeper (envOfC "stable_places" (defScope s_stable_places) s.heap.objs.size f cdv)).units + 65 < cLine := by have := hr.un; omega
  refine ⟨_, (pss_cons (ps_asg (pe_tup (pa_cons (pe_dc (own := [("place", 6), ("at", 7)]) rfl sc_stable_places.nd (k_iany (K := K) rfl (pe_cal c_pairs_of hG (hr.mono (by decide)) pass0 (pa_cons (pv 0) (pa_cons (pv 1) pa_nil)))) (blkOk_by (N := ["base", "one", "other", "first", "last", "found", "place", "at"]) (sc := defScope s_stable_places) (by decide +kernel)) (fun _ _ _ _ _ => (k_gsq (K := K) rfl (n := 2) rfl (pgs_cons (pg_name (i := 6) sc_stable_places.nd rfl (Or.inl rfl)) (pgs_cons (pg_name (i := 7) sc_stable_places.nd rfl (Or.inl rfl)) pgs_nil)))) (fun _ _ _ _ _ => pts_nil) (fun _ _ _ _ _ => (pv 6)) (fun _ _ _ _ _ => (pv 7))) (pa_cons (pe_dc (own := [("place", 6), ("at", 7)]) rfl sc_stable_places.nd (k_iany (K := K) rfl (pe_cal c_pairs_of hG (hr.mono (by decide)) pass0 (pa_cons (pv 0) (pa_cons (pv 2) pa_nil)))) (blkOk_by (N := ["base", "one", "other", "first", "last", "found", "place", "at"]) (sc := defScope s_stable_places) (by decide +kernel)) (fun _ _ _ _ _ => (k_gsq (K := K) rfl (n := 2) rfl (pgs_cons (pg_name (i := 6) sc_stable_places.nd rfl (Or.inl rfl)) (pgs_cons (pg_name (i := 7) sc_stable_places.nd rfl (Or.inl rfl)) pgs_nil)))) (fun _ _ _ _ _ => pts_nil) (fun _ _ _ _ _ => (pv 6)) (fun _ _ _ _ _ => (pv 7))) pa_nil))) (k_gsq (K := K) rfl (n := 2) rfl (pgs_cons (pg_name (i := 3) sc_stable_places.nd rfl (Or.inr rfl)) (pgs_cons (pg_name (i := 4) sc_stable_places.nd rfl (Or.inr rfl)) pgs_nil)))) (pss_cons (ps_setLc (i := 5) (own := [("place", 6)]) rfl sc_stable_places.nd rfl rfl (sw_true rfl rfl rfl (by decide +kernel)) (pi_range1 rfl T.z_range (pa_cons (pe_callB (k_len (K := K) rfl) (by rfl) T.z_len (by decide +kernel) (pa_cons (pv 0) pa_nil)) pa_nil)) (blkOk_by (N := ["base", "one", "other", "first", "last", "found", "place", "at"]) (sc := defScope s_stable_places) (by decide +kernel)) (fun _ _ _ _ _ => (pg_name (i := 6) sc_stable_places.nd rfl (Or.inl rfl))) (fun _ _ _ _ _ => (pts_one (PW.pt (pw_and (pt_cmpR (k_in (K := K) rfl hu) (pv 6) (pv 3) (by with_unfolding_all rfl)) (pw_and1 (pt_cmpR (k_in (K := K) rfl hu) (pv 6) (pv 4) (by with_unfolding_all rfl))))))) (fun _ _ _ _ _ => (pe_tup (pa_cons (pv 6) (pa_cons (pe_ix (k_ix (K := K) rfl hu) (pv 3) (pv 6) (fun _ _ => rfl)) (pa_cons (pe_ix (k_ix (K := K) rfl hu) (pv 4) (pv 6) (fun _ _ => rfl)) pa_nil)))))) (pss_one (ps_ret (pe_lst (k_star (K := K) rfl (pv 5) (pa_cons (pe_tup (pa_cons (pe_callB (k_len (K := K) rfl) (by rfl) T.z_len (by decide +kernel) (pa_cons (pv 0) pa_nil)) (pa_cons (pe_callB (k_len (K := K) rfl) (by rfl) T.z_len (by decide +kernel) (pa_cons (pv 1) pa_nil)) (pa_cons (pe_callB (k_len (K := K) rfl) (by rfl) T.z_len (by decide +kernel) (pa_cons (pv 2) pa_nil)) pa_nil)))) pa_nil))))))), fun δa q hA => ?_⟩
  obtain ⟨bs, one, other, rfl, h0, h1, h2, h⟩ := hA
  change Es K _ [_, _, _, Sl.un, Sl.un, Sl.un, Sl.un, Sl.un] _
  have n0 := h0.1
  have p1 := prs_len_le bs one
  have p2 := prs_len_le bs other
  have dc : ∀ l : List (Nat × Nat), l.length ≤ 40 → l.length < sizeLine := fun l h => Nat.lt_of_le_of_lt h (by decide)
  refine es_seq (es_par2G ?_)
  refine ea_cons (ev_dc ?_)
  walk_at "go"
  refine ⟨bs, one, rfl, Nat.le_trans h0.1 (by decide), Nat.le_trans h1.1 (by decide), h0.2, h1.2, ⟨trivial, ?_⟩⟩
  walk_at "nrm"
  walk_at "go"
  refine ⟨unB_un rfl, dKs (prs bs one), dEs (prs bs one), [6, 7], subB_sub rfl, by rw [dKs_len, List.length_map], by rw [dEs_len, List.length_map], by rw [List.length_map]; exact dc _ (by omega), prs_nodup _ _, fun i d hd => ?_, ?_⟩
  · obtain ⟨p, hp, rfl⟩ := get_map hd
    refine eg_sqT rfl (egs_cons (eg_name (of_decide_eq_true rfl) (egs_cons (eg_name (of_decide_eq_true rfl) (egs_nil ?_)))))
    walk_at "nrm"
    exact ⟨_, _, _, by unfold dKs; rw [List.getElem?_map, hp]; rfl, by unfold dEs; rw [List.getElem?_map, hp]; rfl, rfl, ep_var rfl, ep_var rfl⟩
  refine ea_cons (ev_dc ?_)
  walk_at "go"
  refine ⟨bs, other, rfl, Nat.le_trans h0.1 (by decide), Nat.le_trans h2.1 (by decide), h0.2, h2.2, ⟨trivial, ?_⟩⟩
  walk_at "nrm"
  walk_at "go"
  refine ⟨unB_un rfl, dKs (prs bs other), dEs (prs bs other), [6, 7], subB_sub rfl, by rw [dKs_len, List.length_map], by rw [dEs_len, List.length_map], by rw [List.length_map]; exact dc _ (by omega), prs_nodup _ _, fun i d hd => ?_, ?_⟩
  · obtain ⟨p, hp, rfl⟩ := get_map hd
    refine eg_sqT rfl (egs_cons (eg_name (of_decide_eq_true rfl) (egs_cons (eg_name (of_decide_eq_true rfl) (egs_nil ?_)))))
    walk_at "nrm"
    exact ⟨_, _, _, by unfold dKs; rw [List.getElem?_map, hp]; rfl, by unfold dEs; rw [List.getElem?_map, hp]; rfl, rfl, ep_var rfl, ep_var rfl⟩
  walk_at "go"
  refine ⟨_, _, rfl, of_decide_eq_true rfl, of_decide_eq_true rfl, ?_⟩
  walk_at "nrm"
  refine es_seq (es_asg (ev_lcF ?_))
  walk_at "go"
  refine ⟨by rw [List.length_map]; omega, by rw [List.length_map]; omega, ?_⟩
  rw [List.length_map, Int.toNat_natCast]
  refine ⟨[6], fun i => (stb bs one other i).isSome, stD bs one other, rfl, rfl, by rw [rngD_len]; exact Nat.lt_of_le_of_lt n0 (by decide), fun i d hd => ?_, ?_⟩
  · obtain ⟨hi, rfl⟩ := rngD_get hd
    have ei : (0 : Int) + (i : Int) * 1 = ((i : Nat) : Int) := by omega
    rw [ei]
    refine eg_name (of_decide_eq_true rfl) ?_
    walk_at "nrm"
    walk_at "go"
    refine ap_inK (k := .inl (i : Int)) rfl ?_
    rw [dic_in]
    walk_at "go"
    refine ⟨fun q1 => ?_, fun q1 => ?_⟩
    · walk_at "go"
      refine ap_inK (k := .inl (i : Int)) rfl ?_
      rw [dic_in]
      walk_at "go"
      refine ⟨by rw [stb_isSome, q1, Bool.true_and], fun _ => rfl, fun q2 => ?_⟩
      obtain ⟨a, ha⟩ := Option.isSome_iff_exists.mp q1
      obtain ⟨b, hb2⟩ := Option.isSome_iff_exists.mp q2
      walk_at "go"
      refine ap_ixK (k := .inl (i : Int)) rfl (dic_at ha) ?_
      walk_at "go"
      refine ap_ixK (k := .inl (i : Int)) rfl (dic_at hb2) ?_
      walk_at "go"
      refine ⟨?_, rfl⟩
      unfold stD stb
      rw [ha, hb2]; rfl
    · refine ⟨by rw [stb_isSome, q1, Bool.false_and], fun _ => rfl, fun e => nomatch e⟩
  · rw [rngD_len, stab_D]
    refine ⟨of_decide_eq_true rfl, ?_⟩
    walk_at "nrm"
    have al := allT_len bs one other
    walk_at "go"
    refine ⟨(allT bs one other).map triD, ?_, ?_, ?_⟩
    · rw [← allT_D]
      refine fds_im (es := [triD (bs.length, one.length, other.length)]) ?_
      rw [List.length_map, List.length_map, List.length_map]; rfl
    · rw [List.length_map]; exact Nat.le_trans (show _ ≤ 41 by omega) (by decide)
    exact ⟨_, rfl, h⟩
end
end Ek

namespace Ek
open PySem PySem.Spec PyProof.Rows L2 StX
local macro_rules
  | `(tactic| walk_at "nrm") => `(tactic| dsimp only [asgS, bks2, bk1, List.set_cons_zero, List.set_cons_succ, List.set_nil, wipeS, Sl.put, List.getElem?_cons_zero, List.getElem?_cons_succ, List.getElem?_nil, Option.getD_some, Option.getD_none, reduceIte, Nat.reduceEqDiff, List.map_nil, List.map_cons, List.nil_append, List.cons_append, List.replicate])
local macro_rules
  | `(tactic| walk_at "go1") => `(tactic| first
    | with_reducible refine es_seq ?_
    | with_reducible refine es_ret ?_
    | with_reducible refine es_retN ?_
    | with_reducible refine es_drop ?_
    | with_reducible refine es_asg ?_
    | with_reducible refine es_next ?_
    | with_reducible refine es_brk ?_
    | with_reducible refine es_cont ?_
    | with_reducible refine es_if ?_
    | with_reducible refine es_par ?_
    | with_reducible refine es_par3 ?_
    | with_reducible refine ev_op ?_
    | with_reducible refine ev_cb ?_
    | with_reducible refine ev_sl ?_
    | with_reducible refine eo_no ?_
    | with_reducible refine eo_pt ?_
    | with_reducible refine ea_cons ?_
    | with_reducible refine ea_nil ?_
    | with_reducible refine ea_star ?_
    | with_reducible refine ev_tup ?_
    | with_reducible refine ev_lst ?_
    | ((with_reducible refine ev_c (d := ?_) ?_ ?_); rotate_left; · rfl)
    | ((with_reducible refine ev_im (d := ?_) ?_ ?_); rotate_left; · rfl)
    | ((with_reducible refine ev_bo (s := ?_) ?_ ?_ ?_); rotate_left; (· rfl); (· rfl))
    | with_reducible refine ev_andV ?_
    | with_reducible refine ev_orV ?_
    | with_reducible refine ev_notV ?_
    | with_reducible refine ev_if ?_
    | with_reducible refine ev_neg ?_
    | with_reducible refine ev_isN ?_
    | with_reducible refine ev_notN ?_
    | with_reducible refine ev_cal2 ?_
    | refine Exists.intro _ (And.intro (a := Ags _ _ _ = some _) rfl (And.intro (a := ndB _ = true) rfl ?_))
    | with_reducible refine ev_chainI (fun _ _ => rfl) ?_
    | with_reducible refine et_test ?_
    | with_reducible refine et_val ?_
    | with_reducible refine et_and ?_
    | with_reducible refine et_or ?_
    | with_reducible refine et_not ?_
    | with_reducible refine ap_addI ?_
    | with_reducible refine ap_sub ?_
    | with_reducible refine ap_lt ?_
    | with_reducible refine ap_le ?_
    | with_reducible refine ap_gt ?_
    | with_reducible refine ap_ge ?_
    | with_reducible refine ap_eqI ?_
    | with_reducible refine ap_neI ?_
    | with_reducible refine ap_eqS ?_
    | with_reducible refine ap_neS ?_
    | with_reducible refine ap_max ?_
    | with_reducible refine ap_max3 ?_
    | with_reducible refine ap_min ?_
    | with_reducible refine ap_abs ?_
    | with_reducible refine ap_int ?_
    | with_reducible refine ap_intB ?_
    | ((with_reducible refine ap_len (ds := ?_) ?_ ?_); rotate_left; · rfl)
    | with_reducible refine ap_slT ?_
    | with_reducible refine ap_addT ?_ ?_
    | with_reducible refine ap_inS ?_
    | with_reducible refine ap_tupT ?_
    | ((with_reducible refine ap_tupL (ds := ?_) ?_ ?_); rotate_left; · rfl)
    | ((with_reducible refine ap_list (ds := ?_) ?_ ?_); rotate_left; · rfl)
    | refine ap_isi (b := true) rfl rfl (by decide +kernel) ?_
    | refine ap_isi (b := false) rfl rfl (by decide +kernel) ?_
    | with_reducible refine et_yes ?_
    | refine And.intro (a := List.length _ ≤ sizeLine) (of_decide_eq_true rfl) ?_
    | refine ap_ixO (i := 0) rfl rfl ?_
    | refine ap_ixO (i := 1) rfl rfl ?_
    | refine ap_ixO (i := 2) rfl rfl ?_
    | refine ap_ixO (i := 0) rfl (atI_nat (j := 0) rfl) ?_
    | with_reducible refine ei_any ?_
    | with_reducible refine ei_rng1 ?_
    | with_reducible refine ei_rng2 ?_
    | with_reducible refine ei_rng3 ?_
    | with_reducible refine ei_enumT ?_
    | with_reducible refine ⟨fun _ => ?_, fun (e : true = false) => nomatch e⟩
    | refine ⟨fun (e : (!true) = true) => Bool.noConfusion (show false = true from e), fun _ => ?_⟩
    | refine ⟨fun _ => ?_, fun (e : (!false) = false) => Bool.noConfusion (show true = false from e)⟩
    | with_reducible refine ⟨fun (e : false = true) => nomatch e, fun _ => ?_⟩
    | (with_reducible refine ⟨_, rfl, ?_⟩))
local macro_rules
  | `(tactic| walk_at "go") => `(tactic| repeat walk_at "go1")

def stM (base one other : List Str) (t : Nat) : MSt := ((allT base one other).take t).foldl (stepM base one other) ([], [], (0, 0, 0))
theorem stM_next {base one other : List Str} {t : Nat} {p : Tri} (h : (allT base one other)[t]? = some p) : stM base one other (t + 1) = stepM base one other (stM base one other t) p := by
  unfold stM
  rw [List.take_add_one, h, Option.toList_some, List.foldl_append]
  rfl
def okC (c : Cl) : Prop := (∀ z ∈ c.2.2.1, okT 100 z) ∧ ∀ z ∈ c.2.2.2, okT 100 z
theorem tk_of {b x y r : List Str} (h : tk b x y = some r) : r = x ∨ r = y := by
  unfold tk at h
  split at h
  · exact .inr (Option.some.inj h).symm
  · split at h
    · exact .inl (Option.some.inj h).symm
    · cases h
theorem stepM_ok {base one other : List Str} (h0 : okR base) (h1 : okR one) (h2 : okR other) {s : MSt} (p : Tri) (g : (∀ z ∈ s.1, okT 100 z) ∧ ∀ c ∈ s.2.1, okC c) :
    ((∀ z ∈ (stepM base one other s p).1, okT 100 z) ∧ ∀ c ∈ (stepM base one other s p).2.1, okC c) ∧ (stepM base one other s p).1.length ≤ s.1.length + 81 ∧ (stepM base one other s p).2.1.length ≤ s.2.1.length + 1 := by
  have o1 : ∀ a b, ∀ z ∈ sl one a b, okT 100 z := fun a b z hz => h1.2 z (sl_mem hz)
  have o2 : ∀ a b, ∀ z ∈ sl other a b, okT 100 z := fun a b z hz => h2.2 z (sl_mem hz)
  have o0 : ∀ a b, ∀ z ∈ sl base a b, okT 100 z := fun a b z hz => h0.2 z (sl_mem hz)
  have l1 : ∀ a b, (sl one a b).length ≤ 40 := fun a b => Nat.le_trans sl_len_le h1.1
  have l2 : ∀ a b, (sl other a b).length ≤ 40 := fun a b => Nat.le_trans sl_len_le h2.1
  have l0 : (sl base p.1 (p.1 + 1)).length ≤ 1 := by
    unfold sl
    rw [List.length_take]; omega
  unfold stepM
  dsimp only
  cases e : tk (sl base s.2.2.1 p.1) (sl one s.2.2.2.1 p.2.1) (sl other s.2.2.2.2 p.2.2) with
  | some r =>
    have rr := tk_of e
    have lr : r.length ≤ 40 := by rcases rr with z | z <;> rw [z]; exact l1 _ _; exact l2 _ _
    have or' : ∀ z ∈ r, okT 100 z := by rcases rr with z | z <;> rw [z]; exact o1 _ _; exact o2 _ _
    refine ⟨⟨fun z hz => ?_, g.2⟩, by dsimp only; rw [List.length_append, List.length_append]; omega, Nat.le_succ _⟩
    rcases List.mem_append.mp hz with m | m
    · rcases List.mem_append.mp m with m | m
      · exact g.1 z m
      · exact or' z m
    · exact o0 _ _ z m
  | none =>
    refine ⟨⟨fun z hz => ?_, fun c hc => ?_⟩, by dsimp only; rw [List.length_append]; omega, by dsimp only; rw [List.length_append, List.length_singleton]; exact Nat.le_refl _⟩
    · rcases List.mem_append.mp hz with m | m
      · exact g.1 z m
      · exact o0 _ _ z m
    · rcases List.mem_append.mp hc with m | m
      · exact g.2 c m
      · rw [show c = _ from by simpa using m]
        exact ⟨o1 _ _, o2 _ _⟩
theorem stM_ok {base one other : List Str} (h0 : okR base) (h1 : okR one) (h2 : okR other) : ∀ t, ((∀ z ∈ (stM base one other t).1, okT 100 z) ∧ ∀ c ∈ (stM base one other t).2.1, okC c) ∧ (stM base one other t).1.length ≤ 81 * t ∧ (stM base one other t).2.1.length ≤ t
  | 0 => ⟨⟨fun z hz => (by cases hz), fun z hz => (by cases hz)⟩, Nat.le_refl _, Nat.le_refl _⟩
  | t + 1 => by
    obtain ⟨g, l1, l2⟩ := stM_ok h0 h1 h2 t
    cases h : (allT base one other)[t]? with
    | none =>
      have : stM base one other (t + 1) = stM base one other t := by
        unfold stM
        rw [List.take_add_one, h]; simp
      rw [this]
      exact ⟨g, by omega, by omega⟩
    | some p =>
      rw [stM_next h]
      obtain ⟨a, b, c⟩ := stepM_ok h0 h1 h2 p g
      exact ⟨a, by omega, by omega⟩
theorem mrg_stM (base one other : List Str) : mrg base one other = stM base one other (allT base one other).length := by unfold mrg stM; rw [List.take_length]
/-! ### clashes as data -/
def clP (c : Cl) : PyData := .tuple [.int c.1, .int c.2.1, rowP c.2.2.1, rowP c.2.2.2]
theorem py_cl (b : Cl) : (clD b).py = some (clP b) := by
  simp only [clD, clP, Dt.py, Dt.pyAll, pyAll_str, Option.map_some]
theorem pyAll_cl : ∀ l : List Cl, Dt.pyAll (l.map clD) = some (l.map clP)
  | [] => rfl
  | b :: l => by simp only [List.map_cons, Dt.pyAll, py_cl, pyAll_cl l]
theorem canLay_cl {c : Cl} (h : okC c) : PyData.canLay0 (clP c) = true := by
  have z1 := SeqAt.canLay_of_shaped (shaped_row h.1)
  have z2 := SeqAt.canLay_of_shaped (shaped_row h.2)
  simp only [PyData.canLay0] at z1 z2
  simp [clP, PyData.canLay0, PyData.canLayAll0, z1, z2]
theorem depth_cl (c : Cl) : PyData.depth (clP c) ≤ 2 := by
  simp [clP, PyData.depth, PyData.depthAll, depth_str]
theorem canLayAll_cl : ∀ {l : List Cl}, (∀ b ∈ l, okC b) → PyData.canLayAll0 (l.map clP) = true
  | [], _ => by simp [PyData.canLayAll0]
  | b :: l, h => by
    simp only [List.map_cons, PyData.canLayAll0, canLay_cl (h b (List.mem_cons_self ..)), canLayAll_cl fun c hc => h c (List.mem_cons_of_mem _ hc), Bool.and_self]
theorem depthAll_cl : ∀ l : List Cl, PyData.depthAll (l.map clP) ≤ 2
  | [] => by simp [PyData.depthAll]
  | b :: l => Nat.max_le.mpr ⟨depth_cl b, depthAll_cl l⟩
theorem shaped_clT {l : List Cl} (h : ∀ b ∈ l, okC b) : SeqAt.shaped (.tuple (l.map clP)) = true := by
  have := depthAll_cl l
  unfold SeqAt.shaped
  rw [Bool.and_eq_true]
  refine ⟨by simp only [PyData.canLay0, canLayAll_cl h], decide_eq_true ?_⟩
  show PyData.depth (.tuple (l.map clP)) ≤ 64
  rw [PyData.depth]
  omega
theorem shaped_clL {l : List Cl} (h : ∀ b ∈ l, okC b) : SeqAt.shaped (.list (l.map clP)) = true := by
  have := depthAll_cl l
  unfold SeqAt.shaped
  rw [Bool.and_eq_true]
  refine ⟨by simp only [PyData.canLay0, canLayAll_cl h], decide_eq_true ?_⟩
  show PyData.depth (.list (l.map clP)) ≤ 64
  rw [PyData.depth]
  omega
theorem shaped_nilT : SeqAt.shaped (.tuple []) = true := shaped_clT (l := []) fun b hb => by cases hb
theorem eqv_nilT (l : List PyData) : PyData.eqv (.tuple l) (.tuple []) = decide (l = []) := by
  cases l <;> simp [PyData.eqv, PyData.eqvAll]
section
variable {P : Program} {w : World} {K : PySem.W.Frag} {mg : Str → Option Value} {base : Heap}
def A_merged_rows : Pr := fun δa q => ∃ bs one other : List Str, δa = [.im (rowD bs), .im (rowD one), .im (rowD other)] ∧ okR bs ∧ okR one ∧ okR other ∧ q (.im (.tup [rowD (mrg bs one other).1, .tup ((mrg bs one other).2.1.map clD)])) δa
set_option maxHeartbeats 4000000 in
theorem ok_merged_rows (T : Tx mg) (c_stable_places : CalR P w K mg base CX0 3 "stable_places" (FD K A_stable_places)) (c_taken_of : CalR P w K mg base CX0 1 "taken_of" (FD K A_taken_of)) {f : Addr} {fd : FuncData} (F : Fn K "merged_rows" s_merged_rows f fd) (hm : mg "merged_rows" = some (.ref f)) (hb : Binds K fd ["base", "one", "other"] []) : CalR P w K mg base CX0 4 "merged_rows" (FD K A_merged_rows) := by
  refine cal_fd 3 [] F hm sc_merged_rows hb .nil rfl rfl (fun δa q hA => by simp only [A_merged_rows] at hA; (repeat obtain ⟨_, hA⟩ := hA); simp only [*, List.length_cons, List.length_nil]) fun cdv Ar outer s H E hG hr => ?_
  have hu : (Ar.deeper (envOfC "merged_rows" (defScope s_merged_rows) s.heap.objs.size f cdv)).units + 65 < cLine := by have := hr.un; omega
  refine ⟨_, (pss_cons (ps_par3 (i := 3) (j := 4) (l := 5) rfl sc_merged_rows.nd rfl rfl rfl (by decide) (by decide) (by decide) rfl rfl rfl (pa_cons (pe_lst pa_nil) (pa_cons (pe_lst pa_nil) (pa_cons (pe_tup (pa_cons pe_int (pa_cons pe_int (pa_cons pe_int pa_nil)))) pa_nil))) rfl) (pss_cons (ps_for PassesOwn.never rfl (k_iany (K := K) rfl (pe_cal c_stable_places hG (hr.mono (by decide)) pass0 (pa_cons (pv 0) (pa_cons (pv 1) (pa_cons (pv 2) pa_nil))))) (pg_name (i := 6) sc_merged_rows.nd rfl (Or.inl rfl)) (pss_cons (ps_set (i := 7) sc_merged_rows.nd rfl (Or.inl rfl) (pe_tup (pa_cons (pe_slice (k_sl (K := K) rfl) (pv 0) (po_some (pe_ix (k_ix (K := K) rfl hu) (pv 5) pe_int (fun _ _ => rfl))) (po_some (pe_ix (k_ix (K := K) rfl hu) (pv 6) pe_int (fun _ _ => rfl)))) (pa_cons (pe_slice (k_sl (K := K) rfl) (pv 1) (po_some (pe_ix (k_ix (K := K) rfl hu) (pv 5) pe_int (fun _ _ => rfl))) (po_some (pe_ix (k_ix (K := K) rfl hu) (pv 6) pe_int (fun _ _ => rfl)))) (pa_cons (pe_slice (k_sl (K := K) rfl) (pv 2) (po_some (pe_ix (k_ix (K := K) rfl hu) (pv 5) pe_int (fun _ _ => rfl))) (po_some (pe_ix (k_ix (K := K) rfl hu) (pv 6) pe_int (fun _ _ => rfl)))) pa_nil))))) (pss_cons (ps_set (i := 8) sc_merged_rows.nd rfl (Or.inl rfl) (pe_cal c_taken_of hG (hr.mono (by decide)) pass0 (pa_cons (pv 7) pa_nil))) (pss_cons (ps_if (pt_cmp (pc_isN (pv 8))) (pss_one (ps_expr (k_bm (K := K) rfl PySem.F.plainAttrs_list PySem.F.slot_list_append PySem.F.type_list_append mt_append (pv 4) (pa_cons (pe_tup (pa_cons (pe_ix (k_ix (K := K) rfl hu) (pv 5) pe_int (fun _ _ => rfl)) (pa_cons (pe_ix (k_ix (K := K) rfl hu) (pv 6) pe_int (fun _ _ => rfl)) (pa_cons (pe_ix (k_ix (K := K) rfl hu) (pv 7) pe_int (fun _ _ => rfl)) (pa_cons (pe_ix (k_ix (K := K) rfl hu) (pv 7) pe_int (fun _ _ => rfl)) pa_nil))))) pa_nil)))) (pss_one (ps_expr (k_bm (K := K) rfl PySem.F.plainAttrs_list PySem.F.slot_list_extend PySem.F.type_list_extend (k_ext (K := K) rfl) (pv 3) (pa_cons (pv 8) pa_nil))))) (pss_cons (ps_expr (k_bm (K := K) rfl PySem.F.plainAttrs_list PySem.F.slot_list_extend PySem.F.type_list_extend (k_ext (K := K) rfl) (pv 3) (pa_cons (pe_slice (k_sl (K := K) rfl) (pv 0) (po_some (pe_ix (k_ix (K := K) rfl hu) (pv 6) pe_int (fun _ _ => rfl))) (po_some (pe_op (k_add (K := K) rfl) (pe_ix (k_ix (K := K) rfl hu) (pv 6) pe_int (fun _ _ => rfl)) pe_int))) pa_nil))) (pss_one (ps_set (i := 5) sc_merged_rows.nd rfl (Or.inl rfl) (pe_tup (pa_cons (pe_op (k_add (K := K) rfl) (pe_ix (k_ix (K := K) rfl hu) (pv 6) pe_int (fun _ _ => rfl)) pe_int) (pa_cons (pe_op (k_add (K := K) rfl) (pe_ix (k_ix (K := K) rfl hu) (pv 6) pe_int (fun _ _ => rfl)) pe_int) (pa_cons (pe_op (k_add (K := K) rfl) (pe_ix (k_ix (K := K) rfl hu) (pv 6) pe_int (fun _ _ => rfl)) pe_int) pa_nil))))))))))) (pss_one (ps_ret (pe_tup (pa_cons (pe_callTy (k_tup (K := K) rfl) (by rfl) T.z_tuple (by decide +kernel) (pa_cons (pv 3) pa_nil)) (pa_cons (pe_callTy (k_tup (K := K) rfl) (by rfl) T.z_tuple (by decide +kernel) (pa_cons (pv 4) pa_nil)) pa_nil))))))), fun δa q hA => ?_⟩
  obtain ⟨bs, one, other, rfl, h0, h1, h2, h⟩ := hA
  change Es K _ [_, _, _, Sl.un, Sl.un, Sl.un, Sl.un, Sl.un, Sl.un] _
  have al := allT_len bs one other
  have n0 := h0.1
  walk_at "go"
  refine ⟨_, _, _, rfl, of_decide_eq_true rfl, of_decide_eq_true rfl, of_decide_eq_true rfl, ?_⟩
  walk_at "nrm"
  refine es_seq (es_for ?_)
  walk_at "go"
  refine ⟨bs, one, other, rfl, h0, h1, h2, ⟨trivial, ?_⟩⟩
  walk_at "nrm"
  walk_at "go"
  refine ⟨fun t δ' => ∃ x6 x7 x8, δ' = [.im (rowD bs), .im (rowD one), .im (rowD other), .ls ((stM bs one other t).1.map .str), .ls ((stM bs one other t).2.1.map clD), .im (triD (stM bs one other t).2.2), x6, x7, x8], [6], ⟨_, _, _, rfl⟩, fun t d δ' hd hI => ?_, fun δ' hI => ?_⟩
  · obtain ⟨x6, x7, x8, rfl⟩ := hI
    obtain ⟨p, hp, rfl⟩ := get_map hd
    have sn := stM_next hp
    obtain ⟨ok1, lf, lc⟩ := stM_ok h0 h1 h2 t
    have lt : t < (allT bs one other).length := (List.getElem?_eq_some_iff.mp hp).1
    obtain ⟨ok2, lf2, lc2⟩ := stepM_ok h0 h1 h2 p ok1
    rw [← sn] at lf2 lc2
    generalize stM bs one other t = s1 at lf lc sn ok1 lf2 lc2 ⊢
    obtain ⟨f1, c1, ⟨a0, a1, a2⟩⟩ := s1
    obtain ⟨p0, p1, p2⟩ := p
    dsimp only at lf lc ok1 lf2 lc2
    refine eg_name (of_decide_eq_true rfl) ?_
    walk_at "nrm"
    have sz : ∀ m, m ≤ 4000 → m < sizeLine := fun m hm => Nat.lt_of_le_of_lt hm (by decide)
    walk_at "go"
    refine ⟨of_decide_eq_true rfl, ?_⟩
    rw [cut_map, cut_map, cut_map]
    walk_at "nrm"
    walk_at "go"
    refine ⟨sl bs a0 p0, sl one a1 p1, sl other a2 p2, rfl, fun z hz => h0.2 z (sl_mem hz), fun z hz => h1.2 z (sl_mem hz), fun z hz => h2.2 z (sl_mem hz), trivial, ?_⟩
    refine ⟨of_decide_eq_true rfl, ?_⟩
    walk_at "nrm"
    have ep : (p0 : Int) + 1 = ((p0 + 1 : Nat) : Int) := by omega
    have lb : (sl bs p0 (p0 + 1)).length ≤ 1 := by unfold sl; rw [List.length_take]; omega
    cases e : tk (sl bs a0 p0) (sl one a1 p1) (sl other a2 p2) with
    | none =>
      have et : tkD (sl bs a0 p0) (sl one a1 p1) (sl other a2 p2) = .non := by unfold tkD; rw [e]
      have es : stM bs one other (t + 1) = (f1 ++ sl bs p0 (p0 + 1), c1 ++ [(a0, p0, sl one a1 p1, sl other a2 p2)], (p0 + 1, p1 + 1, p2 + 1)) := by
        rw [sn]; unfold stepM; dsimp only; rw [e]
      rw [es] at lf2 lc2
      dsimp only at lf2 lc2
      rw [List.length_append] at lf2 lc2
      rw [et]
      walk_at "go"
      refine ev_bm (i := 4) rfl rfl ?_
      walk_at "go"
      refine mt_app rfl rfl rfl (sz _ (by rw [List.length_map]; omega)) ?_
      walk_at "nrm"
      refine es_seq (es_drop (ev_bm (i := 3) rfl rfl ?_))
      walk_at "go"
      rw [ep, cut_map]
      walk_at "go"
      refine mt_ext (ys := (sl bs p0 (p0 + 1)).map .str) rfl rfl (.inr rfl) (by rw [List.length_map, List.length_map]; exact Nat.le_of_lt (sz _ (by omega))) ?_
      walk_at "nrm"
      walk_at "go"
      refine ⟨of_decide_eq_true rfl, ?_⟩
      walk_at "nrm"
      have e1 : (stM bs one other (t + 1)).1.map Dt.str = f1.map .str ++ (sl bs p0 (p0 + 1)).map .str := by rw [es, List.map_append]
      have e2 : (stM bs one other (t + 1)).2.1.map clD = c1.map clD ++ [clD (a0, p0, sl one a1 p1, sl other a2 p2)] := by rw [es, List.map_append]; rfl
      have e3 : (stM bs one other (t + 1)).2.2 = (p0 + 1, p1 + 1, p2 + 1) := by rw [es]
      rw [e1, e2, e3]
      exact ⟨_, _, _, rfl⟩
    | some r =>
      have et : tkD (sl bs a0 p0) (sl one a1 p1) (sl other a2 p2) = rowD r := by unfold tkD; rw [e]
      have es : stM bs one other (t + 1) = (f1 ++ r ++ sl bs p0 (p0 + 1), c1, (p0 + 1, p1 + 1, p2 + 1)) := by
        rw [sn]; unfold stepM; dsimp only; rw [e]
      rw [es] at lf2 lc2
      dsimp only at lf2 lc2
      rw [List.length_append, List.length_append] at lf2
      rw [et]
      walk_at "go"
      refine ev_bm (i := 3) rfl rfl ?_
      walk_at "go"
      refine mt_ext (ys := r.map .str) rfl rfl (.inr rfl) (by rw [List.length_map, List.length_map]; exact Nat.le_of_lt (sz _ (by omega))) ?_
      walk_at "nrm"
      refine es_seq (es_drop (ev_bm (i := 3) rfl rfl ?_))
      walk_at "go"
      rw [ep, cut_map]
      walk_at "go"
      refine mt_ext (ys := (sl bs p0 (p0 + 1)).map .str) rfl rfl (.inr rfl) (by rw [List.length_append, List.length_map, List.length_map, List.length_map]; exact Nat.le_of_lt (sz _ (by omega))) ?_
      walk_at "nrm"
      walk_at "go"
      refine ⟨of_decide_eq_true rfl, ?_⟩
      walk_at "nrm"
      have e1 : (stM bs one other (t + 1)).1.map Dt.str = f1.map .str ++ r.map .str ++ (sl bs p0 (p0 + 1)).map .str := by rw [es, List.map_append, List.map_append]
      have e2 : (stM bs one other (t + 1)).2.1.map clD = c1.map clD := by rw [es]
      have e3 : (stM bs one other (t + 1)).2.2 = (p0 + 1, p1 + 1, p2 + 1) := by rw [es]
      rw [e1, e2, e3]
      exact ⟨_, _, _, rfl⟩
  · obtain ⟨x6, x7, x8, rfl⟩ := hI
    rw [List.length_map, ← mrg_stM]
    walk_at "go"
    exact ⟨_, rfl, h⟩
def A_merged : Pr := fun δa q => ∃ bs one other : List Str, δa = [.im (rowD bs), .im (rowD one), .im (rowD other)] ∧ okR bs ∧ okR one ∧ okR other ∧ q (.im (resD (mrg bs one other))) δa
set_option maxHeartbeats 4000000 in
theorem ok_merged (T : Tx mg) (c_check_row : CalR P w K mg base CX0 2 "check_row" (FD K A_check_row)) (c_merged_rows : CalR P w K mg base CX0 4 "merged_rows" (FD K A_merged_rows)) {f : Addr} {fd : FuncData} (F : Fn K "merged" s_merged f fd) (hm : mg "merged" = some (.ref f)) (hb : Binds K fd ["base", "one", "other"] []) : CalR P w K mg base CX0 5 "merged" (FD K A_merged) := by
  refine cal_fd 3 [] F hm sc_merged hb .nil rfl rfl (fun δa q hA => by simp only [A_merged] at hA; (repeat obtain ⟨_, hA⟩ := hA); simp only [*, List.length_cons, List.length_nil]) fun cdv Ar outer s H E hG hr => ?_
  have hu : (Ar.deeper (envOfC "merged" (defScope s_merged) s.heap.objs.size f cdv)).units + 65 < cLine := by have := hr.un; omega
  refine ⟨_, (pss_cons (ps_expr (pe_cal c_check_row hG (hr.mono (by decide)) pass0 (pa_cons (pv 0) pa_nil))) (pss_cons (ps_expr (pe_cal c_check_row hG (hr.mono (by decide)) pass0 (pa_cons (pv 1) pa_nil))) (pss_cons (ps_expr (pe_cal c_check_row hG (hr.mono (by decide)) pass0 (pa_cons (pv 2) pa_nil))) (pss_cons (ps_asg (pe_cal c_merged_rows hG (hr.mono (by decide)) pass0 (pa_cons (pv 0) (pa_cons (pv 1) (pa_cons (pv 2) pa_nil)))) (k_gsq (K := K) rfl (n := 2) rfl (pgs_cons (pg_name (i := 3) sc_merged.nd rfl (Or.inl rfl)) (pgs_cons (pg_name (i := 4) sc_merged.nd rfl (Or.inl rfl)) pgs_nil)))) (pss_one (ps_ret (pe_ifExp (pt_cmpR (k_eq (K := K) rfl hu) (pv 4) (pe_tup pa_nil) (nomark _)) (pe_tup (pa_cons (pe_glob (v := .str "merged") rfl T.c_MERGED.choose_spec ⟨_, rfl⟩) (pa_cons (pv 3) pa_nil))) (pe_tup (pa_cons (pe_glob (v := .str "clash") rfl T.c_CLASH.choose_spec ⟨_, rfl⟩) (pa_cons (pv 4) pa_nil)))))))))), fun δa q hA => ?_⟩
  obtain ⟨bs, one, other, rfl, h0, h1, h2, h⟩ := hA
  change Es K _ [_, _, _, Sl.un, Sl.un] _
  walk_at "go"
  refine ⟨bs, rfl, h0, trivial, ?_⟩
  walk_at "nrm"
  walk_at "go"
  refine ⟨one, rfl, h1, trivial, ?_⟩
  walk_at "nrm"
  walk_at "go"
  refine ⟨other, rfl, h2, trivial, ?_⟩
  walk_at "nrm"
  refine es_seq (es_asgG ?_)
  walk_at "go"
  refine ⟨bs, one, other, rfl, h0, h1, h2, trivial, ?_⟩
  walk_at "nrm"
  refine ⟨_, [3, 4], rfl, eg_sqT rfl (egs_cons (eg_name (of_decide_eq_true rfl) (egs_cons (eg_name (of_decide_eq_true rfl) (egs_nil ?_))))) ⟩
  walk_at "nrm"
  have okm := (stM_ok h0 h1 h2 (allT bs one other).length).1
  rw [← mrg_stM] at okm
  unfold resD at h
  walk_at "go"
  refine ap_eqD (x := .tup ((mrg bs one other).2.1.map clD)) (y := .tup []) rfl rfl (by simp only [Dt.py, pyAll_cl, Option.map_some]) rfl (shaped_clT okm.2) shaped_nilT ?_
  rw [eqv_nilT]
  walk_at "go"
  refine ⟨fun q1 => ?_, fun q1 => ?_⟩
  · have q2 : (mrg bs one other).2.1 = [] := by simpa using of_decide_eq_true q1
    rw [if_pos q2] at h
    walk_at "go"
    exact ⟨_, rfl, h⟩
  · have q2 : ¬ (mrg bs one other).2.1 = [] := by simpa using of_decide_eq_false q1
    rw [if_neg q2] at h
    walk_at "go"
    exact ⟨_, rfl, h⟩
end
end Ek

namespace Ek
open PySem PySem.Spec PyProof.Rows L2 StX
local macro_rules
  | `(tactic| walk_at "nrm") => `(tactic| dsimp only [asgS, bks2, bk1, List.set_cons_zero, List.set_cons_succ, List.set_nil, wipeS, Sl.put, List.getElem?_cons_zero, List.getElem?_cons_succ, List.getElem?_nil, Option.getD_some, Option.getD_none, reduceIte, Nat.reduceEqDiff, List.map_nil, List.map_cons, List.nil_append, List.cons_append, List.replicate])
local macro_rules
  | `(tactic| walk_at "go1") => `(tactic| first
    | with_reducible refine es_seq ?_
    | with_reducible refine es_ret ?_
    | with_reducible refine es_retN ?_
    | with_reducible refine es_drop ?_
    | with_reducible refine es_asg ?_
    | with_reducible refine es_next ?_
    | with_reducible refine es_brk ?_
    | with_reducible refine es_cont ?_
    | with_reducible refine es_if ?_
    | with_reducible refine es_par ?_
    | with_reducible refine es_par3 ?_
    | with_reducible refine ev_op ?_
    | with_reducible refine ev_cb ?_
    | with_reducible refine ev_sl ?_
    | with_reducible refine eo_no ?_
    | with_reducible refine eo_pt ?_
    | with_reducible refine ea_cons ?_
    | with_reducible refine ea_nil ?_
    | with_reducible refine ea_star ?_
    | with_reducible refine ev_tup ?_
    | with_reducible refine ev_lst ?_
    | ((with_reducible refine ev_c (d := ?_) ?_ ?_); rotate_left; · rfl)
    | ((with_reducible refine ev_im (d := ?_) ?_ ?_); rotate_left; · rfl)
    | ((with_reducible refine ev_bo (s := ?_) ?_ ?_ ?_); rotate_left; (· rfl); (· rfl))
    | with_reducible refine ev_andV ?_
    | with_reducible refine ev_orV ?_
    | with_reducible refine ev_notV ?_
    | with_reducible refine ev_if ?_
    | with_reducible refine ev_neg ?_
    | with_reducible refine ev_isN ?_
    | with_reducible refine ev_notN ?_
    | with_reducible refine ev_cal2 ?_
    | refine Exists.intro _ (And.intro (a := Ags _ _ _ = some _) rfl (And.intro (a := ndB _ = true) rfl ?_))
    | with_reducible refine ev_chainI (fun _ _ => rfl) ?_
    | with_reducible refine et_test ?_
    | with_reducible refine et_val ?_
    | with_reducible refine et_and ?_
    | with_reducible refine et_or ?_
    | with_reducible refine et_not ?_
    | with_reducible refine ap_addI ?_
    | with_reducible refine ap_sub ?_
    | with_reducible refine ap_lt ?_
    | with_reducible refine ap_le ?_
    | with_reducible refine ap_gt ?_
    | with_reducible refine ap_ge ?_
    | with_reducible refine ap_eqI ?_
    | with_reducible refine ap_neI ?_
    | with_reducible refine ap_eqS ?_
    | with_reducible refine ap_neS ?_
    | with_reducible refine ap_max ?_
    | with_reducible refine ap_max3 ?_
    | with_reducible refine ap_min ?_
    | with_reducible refine ap_abs ?_
    | with_reducible refine ap_int ?_
    | with_reducible refine ap_intB ?_
    | ((with_reducible refine ap_len (ds := ?_) ?_ ?_); rotate_left; · rfl)
    | with_reducible refine ap_slT ?_
    | with_reducible refine ap_addT ?_ ?_
    | with_reducible refine ap_inS ?_
    | with_reducible refine ap_tupT ?_
    | ((with_reducible refine ap_tupL (ds := ?_) ?_ ?_); rotate_left; · rfl)
    | ((with_reducible refine ap_list (ds := ?_) ?_ ?_); rotate_left; · rfl)
    | refine ap_isi (b := true) rfl rfl (by decide +kernel) ?_
    | refine ap_isi (b := false) rfl rfl (by decide +kernel) ?_
    | with_reducible refine et_yes ?_
    | refine And.intro (a := List.length _ ≤ sizeLine) (of_decide_eq_true rfl) ?_
    | refine ap_ixO (i := 0) rfl rfl ?_
    | refine ap_ixO (i := 1) rfl rfl ?_
    | refine ap_ixO (i := 2) rfl rfl ?_
    | refine ap_ixO (i := 0) rfl (atI_nat (j := 0) rfl) ?_
    | with_reducible refine ei_any ?_
    | with_reducible refine ei_rng1 ?_
    | with_reducible refine ei_rng2 ?_
    | with_reducible refine ei_rng3 ?_
    | with_reducible refine ei_enumT ?_
    | with_reducible refine ⟨fun _ => ?_, fun (e : true = false) => nomatch e⟩
    | refine ⟨fun (e : (!true) = true) => Bool.noConfusion (show false = true from e), fun _ => ?_⟩
    | refine ⟨fun _ => ?_, fun (e : (!false) = false) => Bool.noConfusion (show true = false from e)⟩
    | with_reducible refine ⟨fun (e : false = true) => nomatch e, fun _ => ?_⟩
    | (with_reducible refine ⟨_, rfl, ?_⟩))
local macro_rules
  | `(tactic| walk_at "go") => `(tactic| repeat walk_at "go1")

def upF (o : Option (List Str)) (f : List Str) : List Str := match o with
  | some r => f ++ r
  | none => f
def upC (o : Option (List Str)) (c : List Cl) (d : Cl) : List Cl := match o with
  | some _ => c
  | none => c ++ [d]
theorem prs_zip : ∀ l : List (Nat × Nat), ((dKs l).zip (dEs l)).map (fun p => Dt.tup [kd p.1, p.2]) = l.map prD
  | [] => rfl
  | p :: l => by
    have := prs_zip l
    unfold dKs dEs at this ⊢
    simp only [List.map_cons, List.zip_cons_cons, this]
    rfl
section
variable {P : Program} {w : World} {K : PySem.W.Frag} {mg : Str → Option Value} {base : Heap}
def A__law_merged : Pr := fun δa q => ∃ bs one other : List Str, δa = [.im (rowD bs), .im (rowD one), .im (rowD other)] ∧ okR bs ∧ okR one ∧ okR other ∧ q (.im (resD (mrg bs one other))) δa
set_option maxHeartbeats 4000000 in
theorem ok__law_merged (T : Tx mg) (c__law_pairs : CalR P w K mg base CX0 2 "_law_pairs" (FD K A__law_pairs)) {f : Addr} {fd : FuncData} (F : Fn K "_law_merged" s__law_merged f fd) (hm : mg "_law_merged" = some (.ref f)) (hb : Binds K fd ["base", "one", "other"] []) : CalR P w K mg base CX0 3 "_law_merged" (FD K A__law_merged) := by
  refine cal_fd 3 [] F hm sc__law_merged hb .nil rfl rfl (fun δa q hA => by simp only [A__law_merged] at hA; (repeat obtain ⟨_, hA⟩ := hA); simp only [*, List.length_cons, List.length_nil]) fun cdv Ar outer s H E hG hr => ?_
  have hu : (Ar.deeper (envOfC "_law_merged" (defScope s__law_merged) s.heap.objs.size f cdv)).units + 65 < cLine := by have := hr.un; omega
  refine ⟨_, (pss_cons (ps_asg (pe_tup (pa_cons (pe_callTy (k_dict (K := K) rfl rfl) (by rfl) T.z_dict (by decide +kernel) (pa_cons (pe_cal c__law_pairs hG (hr.mono (by decide)) pass0 (pa_cons (pv 0) (pa_cons (pv 1) pa_nil))) pa_nil)) (pa_cons (pe_callTy (k_dict (K := K) rfl rfl) (by rfl) T.z_dict (by decide +kernel) (pa_cons (pe_cal c__law_pairs hG (hr.mono (by decide)) pass0 (pa_cons (pv 0) (pa_cons (pv 2) pa_nil))) pa_nil)) pa_nil))) (k_gsq (K := K) rfl (n := 2) rfl (pgs_cons (pg_name (i := 3) sc__law_merged.nd rfl (Or.inr rfl)) (pgs_cons (pg_name (i := 4) sc__law_merged.nd rfl (Or.inr rfl)) pgs_nil)))) (pss_cons (ps_setLc (i := 5) (own := [("at", 11)]) rfl sc__law_merged.nd rfl rfl (sw_true rfl rfl rfl (by decide +kernel)) (pi_range1 rfl T.z_range (pa_cons (pe_callB (k_len (K := K) rfl) (by rfl) T.z_len (by decide +kernel) (pa_cons (pv 0) pa_nil)) pa_nil)) (blkOk_by (N := ["base", "one", "other", "mine", "its", "held", "row", "clashes", "begin", "end", "parts", "at", "texts"]) (sc := defScope s__law_merged) (by decide +kernel)) (fun _ _ _ _ _ => (pg_name (i := 11) sc__law_merged.nd rfl (Or.inl rfl))) (fun _ _ _ _ _ => (pts_one (PW.pt (pw_and (pt_cmpR (k_in (K := K) rfl hu) (pv 11) (pv 3) (by with_unfolding_all rfl)) (pw_and1 (pt_cmpR (k_in (K := K) rfl hu) (pv 11) (pv 4) (by with_unfolding_all rfl))))))) (fun _ _ _ _ _ => (pe_tup (pa_cons (pv 11) (pa_cons (pe_ix (k_ix (K := K) rfl hu) (pv 3) (pv 11) (fun _ _ => rfl)) (pa_cons (pe_ix (k_ix (K := K) rfl hu) (pv 4) (pv 11) (fun _ _ => rfl)) pa_nil)))))) (pss_cons (ps_asg (pe_tup (pa_cons (pe_tup pa_nil) (pa_cons (pe_lst pa_nil) (pa_cons (pe_tup (pa_cons pe_int (pa_cons pe_int (pa_cons pe_int pa_nil)))) pa_nil)))) (k_gsq (K := K) rfl (n := 3) rfl (pgs_cons (pg_name (i := 6) sc__law_merged.nd rfl (Or.inl rfl)) (pgs_cons (pg_name (i := 7) sc__law_merged.nd rfl (Or.inl rfl)) (pgs_cons (pg_name (i := 8) sc__law_merged.nd rfl (Or.inr rfl)) pgs_nil))))) (pss_cons (ps_for PassesOwn.never rfl (k_iany (K := K) rfl (pe_op (k_add (K := K) rfl) (pv 5) (pe_lst (pa_cons (pe_tup (pa_cons (pe_callB (k_len (K := K) rfl) (by rfl) T.z_len (by decide +kernel) (pa_cons (pv 0) pa_nil)) (pa_cons (pe_callB (k_len (K := K) rfl) (by rfl) T.z_len (by decide +kernel) (pa_cons (pv 1) pa_nil)) (pa_cons (pe_callB (k_len (K := K) rfl) (by rfl) T.z_len (by decide +kernel) (pa_cons (pv 2) pa_nil)) pa_nil)))) pa_nil)))) (pg_name (i := 9) sc__law_merged.nd rfl (Or.inr rfl)) (pss_cons (ps_setLc (i := 10) (own := [("at", 11), ("texts", 12)]) rfl sc__law_merged.nd rfl rfl (sw_true rfl rfl rfl (by decide +kernel)) (k_ienum (K := K) rfl rfl T.z_enumerate (pa_cons (pe_tup (pa_cons (pv 0) (pa_cons (pv 1) (pa_cons (pv 2) pa_nil)))) pa_nil)) (blkOk_by (N := ["base", "one", "other", "mine", "its", "held", "row", "clashes", "begin", "end", "parts", "at", "texts"]) (sc := defScope s__law_merged) (by decide +kernel)) (fun _ _ _ _ _ => (k_gsq (K := K) rfl (n := 2) rfl (pgs_cons (pg_name (i := 11) sc__law_merged.nd rfl (Or.inl rfl)) (pgs_cons (pg_name (i := 12) sc__law_merged.nd rfl (Or.inl rfl)) pgs_nil)))) (fun _ _ _ _ _ => pts_nil) (fun _ _ _ _ _ => (pe_slice (k_sl (K := K) rfl) (pv 12) (po_some (pe_ix (k_ix (K := K) rfl hu) (pv 8) (pv 11) (fun _ _ => rfl))) (po_some (pe_ix (k_ix (K := K) rfl hu) (pv 9) (pv 11) (fun _ _ => rfl)))))) (pss_cons (ps_if (PW.pt (pw_or (pt_cmpR (k_eq (K := K) rfl hu) (pe_ix (k_ix (K := K) rfl hu) (pv 10) pe_int (fun _ _ => rfl)) (pe_ix (k_ix (K := K) rfl hu) (pv 10) pe_int (fun _ _ => rfl)) (nomark _)) (pw_or1 (pt_cmpR (k_eq (K := K) rfl hu) (pe_ix (k_ix (K := K) rfl hu) (pv 10) pe_int (fun _ _ => rfl)) (pe_ix (k_ix (K := K) rfl hu) (pv 10) pe_int (fun _ _ => rfl)) (nomark _))))) (pss_one (ps_set (i := 6) sc__law_merged.nd rfl (Or.inl rfl) (pe_op (k_add (K := K) rfl) (pv 6) (pe_ix (k_ix (K := K) rfl hu) (pv 10) pe_int (fun _ _ => rfl))))) (pss_one (ps_if (pt_cmpR (k_eq (K := K) rfl hu) (pe_ix (k_ix (K := K) rfl hu) (pv 10) pe_int (fun _ _ => rfl)) (pe_ix (k_ix (K := K) rfl hu) (pv 10) pe_int (fun _ _ => rfl)) (nomark _)) (pss_one (ps_set (i := 6) sc__law_merged.nd rfl (Or.inl rfl) (pe_op (k_add (K := K) rfl) (pv 6) (pe_ix (k_ix (K := K) rfl hu) (pv 10) pe_int (fun _ _ => rfl))))) (pss_one (ps_expr (k_bm (K := K) rfl PySem.F.plainAttrs_list PySem.F.slot_list_append PySem.F.type_list_append mt_append (pv 7) (pa_cons (pe_tup (pa_cons (pe_ix (k_ix (K := K) rfl hu) (pv 8) pe_int (fun _ _ => rfl)) (pa_cons (pe_ix (k_ix (K := K) rfl hu) (pv 9) pe_int (fun _ _ => rfl)) (pa_cons (pe_ix (k_ix (K := K) rfl hu) (pv 10) pe_int (fun _ _ => rfl)) (pa_cons (pe_ix (k_ix (K := K) rfl hu) (pv 10) pe_int (fun _ _ => rfl)) pa_nil))))) pa_nil))))))) (pss_one (ps_asg (pe_tup (pa_cons (pe_op (k_add (K := K) rfl) (pv 6) (pe_slice (k_sl (K := K) rfl) (pv 0) (po_some (pe_ix (k_ix (K := K) rfl hu) (pv 9) pe_int (fun _ _ => rfl))) (po_some (pe_op (k_add (K := K) rfl) (pe_ix (k_ix (K := K) rfl hu) (pv 9) pe_int (fun _ _ => rfl)) pe_int)))) (pa_cons (pe_tup (pa_cons (pe_op (k_add (K := K) rfl) (pe_ix (k_ix (K := K) rfl hu) (pv 9) pe_int (fun _ _ => rfl)) pe_int) (pa_cons (pe_op (k_add (K := K) rfl) (pe_ix (k_ix (K := K) rfl hu) (pv 9) pe_int (fun _ _ => rfl)) pe_int) (pa_cons (pe_op (k_add (K := K) rfl) (pe_ix (k_ix (K := K) rfl hu) (pv 9) pe_int (fun _ _ => rfl)) pe_int) pa_nil)))) pa_nil))) (k_gsq (K := K) rfl (n := 2) rfl (pgs_cons (pg_name (i := 6) sc__law_merged.nd rfl (Or.inl rfl)) (pgs_cons (pg_name (i := 8) sc__law_merged.nd rfl (Or.inr rfl)) pgs_nil)))))))) (pss_one (ps_ret (pe_ifExp (pt_cmpR (k_eq (K := K) rfl hu) (pv 7) (pe_lst pa_nil) (nomark _)) (pe_tup (pa_cons pe_str (pa_cons (pv 6) pa_nil))) (pe_tup (pa_cons pe_str (pa_cons (pe_callTy (k_tup (K := K) rfl) (by rfl) T.z_tuple (by decide +kernel) (pa_cons (pv 7) pa_nil)) pa_nil)))))))))), fun δa q hA => ?_⟩
  obtain ⟨bs, one, other, rfl, h0, h1, h2, h⟩ := hA
  change Es K _ [_, _, _, Sl.un, Sl.un, Sl.un, Sl.un, Sl.un, Sl.un, Sl.un, Sl.un, Sl.un, Sl.un] _
  have al := allT_len bs one other
  have n0 := h0.1
  refine es_seq (es_par2G ?_)
  walk_at "go"
  refine ⟨bs, one, rfl, Nat.le_trans h0.1 (by decide), Nat.le_trans h1.1 (by decide), trivial, ?_⟩
  walk_at "nrm"
  walk_at "go"
  refine ap_dictP (ks := dKs (prs bs one)) (es := dEs (prs bs one)) (by rw [dKs_len, dEs_len]) (prs_nodup _ _) (congrArg some (prs_zip _).symm) ?_
  walk_at "go"
  refine ⟨bs, other, rfl, Nat.le_trans h0.1 (by decide), Nat.le_trans h2.1 (by decide), trivial, ?_⟩
  walk_at "nrm"
  walk_at "go"
  refine ap_dictP (ks := dKs (prs bs other)) (es := dEs (prs bs other)) (by rw [dKs_len, dEs_len]) (prs_nodup _ _) (congrArg some (prs_zip _).symm) ?_
  walk_at "go"
  refine ⟨_, _, rfl, of_decide_eq_true rfl, of_decide_eq_true rfl, ?_⟩
  walk_at "nrm"
  refine es_seq (es_asg (ev_lcF ?_))
  walk_at "go"
  refine ⟨by rw [List.length_map]; omega, by rw [List.length_map]; omega, ?_⟩
  rw [List.length_map, Int.toNat_natCast]
  refine ⟨[11], fun i => (stb bs one other i).isSome, stD bs one other, rfl, rfl, by rw [rngD_len]; exact Nat.lt_of_le_of_lt n0 (by decide), fun i d hd => ?_, ?_⟩
  · obtain ⟨hi, rfl⟩ := rngD_get hd
    have ei : (0 : Int) + (i : Int) * 1 = ((i : Nat) : Int) := by omega
    rw [ei]
    refine eg_name (of_decide_eq_true rfl) ?_
    walk_at "nrm"
    walk_at "go"
    refine ap_inK (k := .inl (i : Int)) rfl ?_
    rw [dic_in]
    walk_at "go"
    refine ⟨fun q1 => ?_, fun q1 => ?_⟩
    · walk_at "go"
      refine ap_inK (k := .inl (i : Int)) rfl ?_
      rw [dic_in]
      walk_at "go"
      refine ⟨by rw [stb_isSome, q1, Bool.true_and], fun _ => rfl, fun q2 => ?_⟩
      obtain ⟨a, ha⟩ := Option.isSome_iff_exists.mp q1
      obtain ⟨b, hb2⟩ := Option.isSome_iff_exists.mp q2
      walk_at "go"
      refine ap_ixK (k := .inl (i : Int)) rfl (dic_at ha) ?_
      walk_at "go"
      refine ap_ixK (k := .inl (i : Int)) rfl (dic_at hb2) ?_
      walk_at "go"
      refine ⟨?_, rfl⟩
      unfold stD stb
      rw [ha, hb2]; rfl
    · refine ⟨by rw [stb_isSome, q1, Bool.false_and], fun _ => rfl, fun e => nomatch e⟩
  rw [rngD_len, stab_D]
  refine ⟨of_decide_eq_true rfl, ?_⟩
  walk_at "nrm"
  refine es_seq (es_par3G ?_)
  walk_at "go"
  refine ⟨_, _, _, rfl, of_decide_eq_true rfl, of_decide_eq_true rfl, of_decide_eq_true rfl, ?_⟩
  walk_at "nrm"
  refine es_seq (es_for ?_)
  walk_at "go"
  have ea : (stab bs one other).map triD ++ [Dt.tup [Dt.int ((bs.map Dt.str).length : Int), Dt.int ((one.map Dt.str).length : Int), Dt.int ((other.map Dt.str).length : Int)]] = (allT bs one other).map triD := by
    rw [← allT_D, List.length_map, List.length_map, List.length_map]; rfl
  refine ap_addL (xs := (stab bs one other).map triD) rfl rfl ?_ ?_
  · have l := congrArg List.length ea
    rw [List.length_append] at l
    rw [l, List.length_map]
    exact Nat.le_trans (show _ ≤ 41 by omega) (by decide)
  rw [ea]
  walk_at "go"
  refine ⟨fun t δ' => ∃ x5 x9 x10, δ' = [.im (rowD bs), .im (rowD one), .im (rowD other), .im (dicD (prs bs one)), .im (dicD (prs bs other)), x5, .im (rowD (stM bs one other t).1), .ls ((stM bs one other t).2.1.map clD), .im (triD (stM bs one other t).2.2), x9, x10, .un, .un], [9], ⟨_, _, _, rfl⟩, fun t d δ' hd hI => ?_, fun δ' hI => ?_⟩
  · obtain ⟨x5, x9, x10, rfl⟩ := hI
    obtain ⟨p, hp, rfl⟩ := get_map hd
    have sn := stM_next hp
    obtain ⟨ok1, lf, lc⟩ := stM_ok h0 h1 h2 t
    have lt : t < (allT bs one other).length := (List.getElem?_eq_some_iff.mp hp).1
    obtain ⟨ok2, lf2, lc2⟩ := stepM_ok h0 h1 h2 p ok1
    rw [← sn] at lf2 lc2
    generalize stM bs one other t = s1 at lf lc sn ok1 lf2 lc2 ⊢
    obtain ⟨f1, c1, ⟨a0, a1, a2⟩⟩ := s1
    obtain ⟨p0, p1, p2⟩ := p
    dsimp only at lf lc ok1 lf2 lc2
    refine eg_name (of_decide_eq_true rfl) ?_
    walk_at "nrm"
    have sz : ∀ m, m ≤ 4000 → m < sizeLine := fun m hm => Nat.lt_of_le_of_lt hm (by decide)
    refine es_seq (es_asg (ev_lcN ?_))
    walk_at "go"
    refine ⟨[11, 12], fun i => if i = 0 then rowD (sl bs a0 p0) else if i = 1 then rowD (sl one a1 p1) else rowD (sl other a2 p2), rfl, rfl, by show (3 : Nat) < sizeLine; decide, fun i d hd => ?_, ?_⟩
    · have hd2 : (i = 0 ∧ d = .tup [.int 0, rowD bs]) ∨ (i = 1 ∧ d = .tup [.int 1, rowD one]) ∨ (i = 2 ∧ d = .tup [.int 2, rowD other]) := by
        match i, hd with
        | 0, hd => exact .inl ⟨rfl, (Option.some.inj hd).symm⟩
        | 1, hd => exact .inr (.inl ⟨rfl, (Option.some.inj hd).symm⟩)
        | 2, hd => exact .inr (.inr ⟨rfl, (Option.some.inj hd).symm⟩)
        | i + 3, hd => simp [enD] at hd
      rcases hd2 with ⟨rfl, rfl⟩ | ⟨rfl, rfl⟩ | ⟨rfl, rfl⟩
      · refine eg_sqT rfl (egs_cons (eg_name (of_decide_eq_true rfl) (egs_cons (eg_name (of_decide_eq_true rfl) (egs_nil ?_)))))
        walk_at "nrm"
        walk_at "go"
        rw [cut_map]
        exact ⟨rfl, rfl⟩
      · refine eg_sqT rfl (egs_cons (eg_name (of_decide_eq_true rfl) (egs_cons (eg_name (of_decide_eq_true rfl) (egs_nil ?_)))))
        walk_at "nrm"
        walk_at "go"
        rw [cut_map]
        exact ⟨rfl, rfl⟩
      · refine eg_sqT rfl (egs_cons (eg_name (of_decide_eq_true rfl) (egs_cons (eg_name (of_decide_eq_true rfl) (egs_nil ?_)))))
        walk_at "nrm"
        walk_at "go"
        rw [cut_map]
        exact ⟨rfl, rfl⟩
    refine ⟨of_decide_eq_true rfl, ?_⟩
    walk_at "nrm"
    change Es K _ [_, _, _, _, _, _, _, _, _, _, .ls [rowD (sl bs a0 p0), rowD (sl one a1 p1), rowD (sl other a2 p2)], _, _] _
    have o0 : ∀ z ∈ sl bs a0 p0, okT 100 z := fun z hz => h0.2 z (sl_mem hz)
    have o1 : ∀ z ∈ sl one a1 p1, okT 100 z := fun z hz => h1.2 z (sl_mem hz)
    have o2 : ∀ z ∈ sl other a2 p2, okT 100 z := fun z hz => h2.2 z (sl_mem hz)
    have ep : (p0 : Int) + 1 = ((p0 + 1 : Nat) : Int) := by omega
    have es1 : (stM bs one other (t + 1)).1 = (upF (tk (sl bs a0 p0) (sl one a1 p1) (sl other a2 p2)) f1) ++ sl bs p0 (p0 + 1) := by rw [sn]; rfl
    have es2 : (stM bs one other (t + 1)).2.1 = (upC (tk (sl bs a0 p0) (sl one a1 p1) (sl other a2 p2)) c1 (a0, p0, sl one a1 p1, sl other a2 p2)) := by rw [sn]; rfl
    have es3 : (stM bs one other (t + 1)).2.2 = (p0 + 1, p1 + 1, p2 + 1) := by rw [sn]; rfl
    rw [es1, List.length_append] at lf2
    have hz2 : ∀ u v : List Str, u.length + v.length ≤ 4000 → (u.map Dt.str).length + (v.map Dt.str).length ≤ sizeLine := fun u v hh => by
      rw [List.length_map, List.length_map]
      exact Nat.le_of_lt (sz _ hh)
    have eqA : ∀ u v : List Str, (∀ z ∈ u, okT 100 z) → (∀ z ∈ v, okT 100 z) → ∀ {δ : List Sl} {Pq : Rs → List Sl → Prop}, Pq (im (.bl (decide (u = v)))) δ → Ap2 K (oEq K) (im (rowD u)) (im (rowD v)) δ Pq := fun u v hu1 hv1 δ Pq pp => by
      refine ap_eqD (x := rowD u) (y := rowD v) rfl rfl (py_row u) (py_row v) (shaped_row hu1) (shaped_row hv1) ?_
      rw [eqv_row]
      exact pp
    refine es_seq (es_cut [.im (rowD bs), .im (rowD one), .im (rowD other), .im (dicD (prs bs one)), .im (dicD (prs bs other)), x5, .im (rowD (upF (tk (sl bs a0 p0) (sl one a1 p1) (sl other a2 p2)) f1)), .ls ((upC (tk (sl bs a0 p0) (sl one a1 p1) (sl other a2 p2)) c1 (a0, p0, sl one a1 p1, sl other a2 p2)).map clD), .im (triD (a0, a1, a2)), .im (triD (p0, p1, p2)), .ls [rowD (sl bs a0 p0), rowD (sl one a1 p1), rowD (sl other a2 p2)], .un, .un] (es_if (et_cut (decide (sl one a1 p1 = sl other a2 p2 ∨ sl other a2 p2 = sl bs a0 p0)) ?_ ?_)) ?_)
    · walk_at "go"
      refine eqA _ _ o1 o2 ?_
      walk_at "go"
      refine ⟨fun q1 => ?_, fun q1 => ?_⟩
      · exact ⟨(decide_eq_true (.inl (of_decide_eq_true q1))).symm, rfl⟩
      · have q2 := of_decide_eq_false q1
        walk_at "go"
        refine eqA _ _ o2 o0 ?_
        walk_at "go"
        refine ⟨?_, rfl⟩
        rw [decide_eq_decide]
        exact ⟨.inr, fun z => z.resolve_left q2⟩
    · have lx : (sl one a1 p1).length ≤ 40 := Nat.le_trans sl_len_le h1.1
      have ly : (sl other a2 p2).length ≤ 40 := Nat.le_trans sl_len_le h2.1
      refine ⟨fun q1 => ?_, fun q1 => ?_⟩
      · have q2 := of_decide_eq_true q1
        have et : tk (sl bs a0 p0) (sl one a1 p1) (sl other a2 p2) = some (sl one a1 p1) := by
          unfold tk
          by_cases c : sl one a1 p1 = sl bs a0 p0
          · rw [if_pos c]
            rcases q2 with z | z
            · rw [z]
            · rw [z, c]
          · rw [if_neg c, if_pos]
            rcases q2 with z | z
            · exact .inr z.symm
            · exact .inl z
        rw [et]
        walk_at "go"
        · exact hz2 _ _ (by omega)
        refine ⟨of_decide_eq_true rfl, ?_⟩
        walk_at "nrm"
        rw [← List.map_append]
        rfl
      · have q2 := of_decide_eq_false q1
        walk_at "go"
        refine eqA _ _ o1 o0 ?_
        walk_at "go"
        refine ⟨fun q3 => ?_, fun q3 => ?_⟩
        · have q4 := of_decide_eq_true q3
          have et : tk (sl bs a0 p0) (sl one a1 p1) (sl other a2 p2) = some (sl other a2 p2) := by
            unfold tk; rw [if_pos q4]
          rw [et]
          walk_at "go"
          · exact hz2 _ _ (by omega)
          refine ⟨of_decide_eq_true rfl, ?_⟩
          walk_at "nrm"
          rw [← List.map_append]
          rfl
        · have q4 := of_decide_eq_false q3
          have et : tk (sl bs a0 p0) (sl one a1 p1) (sl other a2 p2) = none := by
            unfold tk; rw [if_neg q4, if_neg]
            rintro (z | z)
            · exact q2 (.inr z)
            · exact q2 (.inl z.symm)
          rw [et]
          refine es_drop (ev_bm (i := 7) rfl rfl ?_)
          walk_at "go"
          refine mt_app rfl rfl rfl (sz _ (by rw [List.length_map]; omega)) ?_
          walk_at "nrm"
          show _ = [_, _, _, _, _, _, _, Sl.ls ((c1 ++ [(a0, p0, sl one a1 p1, sl other a2 p2)]).map clD), _, _, _, _, _]
          rw [List.map_append]; rfl
    · rw [← es2]
      have le1 : (upF (tk (sl bs a0 p0) (sl one a1 p1) (sl other a2 p2)) f1).length ≤ 3700 := by omega
      generalize (upF (tk (sl bs a0 p0) (sl one a1 p1) (sl other a2 p2)) f1) = f2 at le1 es1 lf2 ⊢
      refine es_par2G ?_
      walk_at "go"
      · rw [ep, cut_map]
        exact hz2 f2 (sl bs p0 (p0 + 1)) (by omega)
      rw [ep, cut_map]
      walk_at "go"
      refine ⟨_, _, rfl, of_decide_eq_true rfl, of_decide_eq_true rfl, ?_⟩
      walk_at "nrm"
      rw [← List.map_append, ← es1]
      have e3 : Sl.im (Dt.tup [Dt.int ((p0 : Int) + 1), Dt.int ((p1 : Int) + 1), Dt.int ((p2 : Int) + 1)]) = Sl.im (triD (stM bs one other (t + 1)).2.2) := by rw [es3]; rfl
      rw [e3]
      exact ⟨_, _, _, rfl⟩
  · obtain ⟨x5, x9, x10, rfl⟩ := hI
    rw [List.length_map, ← mrg_stM]
    have okm := (stM_ok h0 h1 h2 (allT bs one other).length).1
    rw [← mrg_stM] at okm
    unfold resD at h
    walk_at "go"
    refine ap_eqD (x := .lst ((mrg bs one other).2.1.map clD)) (y := .lst []) rfl rfl (by simp only [Dt.py, pyAll_cl, Option.map_some]) rfl (shaped_clL okm.2) shaped_nil ?_
    rw [eqv_nil]
    walk_at "go"
    refine ⟨fun q1 => ?_, fun q1 => ?_⟩
    · have q2 : (mrg bs one other).2.1 = [] := by simpa using of_decide_eq_true q1
      rw [if_pos q2] at h
      walk_at "go"
      exact ⟨_, rfl, h⟩
    · have q2 : ¬ (mrg bs one other).2.1 = [] := by simpa using of_decide_eq_false q1
      rw [if_neg q2] at h
      walk_at "go"
      exact ⟨_, rfl, h⟩
end
end Ek

/-! M84e: how many are common, whichever way one reads. -/
namespace Ek
open PySem PySem.Spec PyProof.Rows L2
theorem lc_has : ∀ (n : Nat) (xs ys : List Str), xs.length + ys.length ≤ n → ∃ zs : List Str, zs.Sublist xs ∧ zs.Sublist ys ∧ zs.length = lc xs ys
  | n, [], ys, _ => ⟨[], List.Sublist.slnil, List.nil_sublist _, by rw [lc_nil]; rfl⟩
  | n, x :: xs, [], _ => ⟨[], List.nil_sublist _, List.Sublist.slnil, by rw [lc_nil2]; rfl⟩
  | 0, x :: xs, y :: ys, h => by simp at h
  | n + 1, x :: xs, y :: ys, h => by
    simp only [List.length_cons] at h
    rw [lc_cons]
    by_cases e : x = y
    · rw [if_pos e]
      obtain ⟨z1, a1, b1, c1⟩ := lc_has n xs (y :: ys) (by simp; omega)
      obtain ⟨z2, a2, b2, c2⟩ := lc_has n (x :: xs) ys (by simp; omega)
      obtain ⟨z3, a3, b3, c3⟩ := lc_has n xs ys (by omega)
      by_cases m1 : max (max (lc xs (y :: ys)) (lc (x :: xs) ys)) (1 + lc xs ys) = lc xs (y :: ys)
      · exact ⟨z1, a1.cons _, b1, by rw [m1, c1]⟩
      · by_cases m2 : max (max (lc xs (y :: ys)) (lc (x :: xs) ys)) (1 + lc xs ys) = lc (x :: xs) ys
        · exact ⟨z2, a2, b2.cons _, by rw [m2, c2]⟩
        · refine ⟨x :: z3, a3.cons_cons _, by rw [← e]; exact b3.cons_cons _, ?_⟩
          rw [List.length_cons]
          omega
    · rw [if_neg e]
      obtain ⟨z1, a1, b1, c1⟩ := lc_has n xs (y :: ys) (by simp; omega)
      obtain ⟨z2, a2, b2, c2⟩ := lc_has n (x :: xs) ys (by simp; omega)
      by_cases m1 : lc (x :: xs) ys ≤ lc xs (y :: ys)
      · exact ⟨z1, a1.cons _, b1, by omega⟩
      · exact ⟨z2, a2, b2.cons _, by omega⟩
theorem lc_most : ∀ (n : Nat) (xs ys : List Str), xs.length + ys.length ≤ n → ∀ zs : List Str, zs.Sublist xs → zs.Sublist ys → zs.length ≤ lc xs ys
  | n, [], ys, _, zs, a, _ => by cases a; exact Nat.zero_le _
  | n, x :: xs, [], _, zs, _, b => by cases b; exact Nat.zero_le _
  | 0, x :: xs, y :: ys, h, _, _, _ => by simp at h
  | n + 1, x :: xs, y :: ys, h, zs, a, b => by
    simp only [List.length_cons] at h
    rw [lc_cons]
    cases a with
    | cons _ a =>
      have := lc_most n xs (y :: ys) (by simp; omega) zs a b
      omega
    | cons_cons _ a =>
      rename_i zs
      cases b with
      | cons _ b =>
        have := lc_most n (x :: xs) ys (by simp; omega) (x :: zs) (a.cons_cons _) b
        omega
      | cons_cons _ b =>
        have := lc_most n xs ys (by omega) zs a b
        rw [if_pos rfl, List.length_cons]
        omega
theorem lc_comm (xs ys : List Str) : lc xs ys = lc ys xs := by
  obtain ⟨z1, a1, b1, c1⟩ := lc_has _ xs ys (Nat.le_refl _)
  obtain ⟨z2, a2, b2, c2⟩ := lc_has _ ys xs (Nat.le_refl _)
  have := lc_most _ ys xs (Nat.le_refl _) z1 b1 a1
  have := lc_most _ xs ys (Nat.le_refl _) z2 b2 a2
  omega
theorem lc_rev (xs ys : List Str) : lc xs.reverse ys.reverse = lc xs ys := by
  obtain ⟨z1, a1, b1, c1⟩ := lc_has _ xs ys (Nat.le_refl _)
  obtain ⟨z2, a2, b2, c2⟩ := lc_has _ xs.reverse ys.reverse (Nat.le_refl _)
  have h1 := lc_most _ xs.reverse ys.reverse (Nat.le_refl _) z1.reverse a1.reverse b1.reverse
  have a3 := a2.reverse
  have b3 := b2.reverse
  rw [List.reverse_reverse] at a3 b3
  have h2 := lc_most _ xs ys (Nat.le_refl _) z2.reverse a3 b3
  rw [List.length_reverse] at h1 h2
  omega
theorem prs_len (one other : List Str) : (prs one other).length = lc one other := by
  have := prsF_len (one := one) (other := other) (k := tb one other 0 0) (i := 0) (j := 0) rfl
  unfold prs
  rw [this]
  rfl
theorem prs_len_comm (one other : List Str) : (prs other one).length = (prs one other).length := by
  rw [prs_len, prs_len, lc_comm]
theorem prs_len_rev (one other : List Str) : (prs one.reverse other.reverse).length = (prs one other).length := by
  rw [prs_len, prs_len, lc_rev]
/-! ### what may be shown -/
structure SH (d : PyData) : Prop where
  lay : d.canLay0 = true
  isz : d.intsShort 13 = true
  sh : d.showable = true
theorem SH.int_all : (List.range 1001).all (fun n => decide ((PyData.shown (.int (n : Nat))).length ≤ 13)) = true := by decide +kernel
theorem SH.int {n : Nat} (h : n ≤ 1000) : SH (.int (n : Int)) := by
  have a := List.all_eq_true.mp SH.int_all n (List.mem_range.mpr (by omega))
  refine ⟨by simp only [PyData.canLay0], by simpa only [PyData.intsShort] using a, ?_⟩
  simp only [PyData.showable]
  refine decide_eq_true ?_
  by_cases h0 : n = 0
  · subst h0; decide
  · show (n : Int).natAbs.log2 < 1920
    rw [Int.natAbs_natCast]
    exact (Nat.log2_lt h0).mpr (Nat.lt_of_le_of_lt h (Nat.lt_of_lt_of_le (show 1000 < 2 ^ 10 by decide) (Nat.pow_le_pow_right (by decide) (by decide))))
theorem SH.str {z : Str} (h : PyData.strOk z = true) : SH (.str z) := ⟨by simpa only [PyData.canLay0] using h, by simp only [PyData.intsShort], by simp only [PyData.showable]⟩
theorem SH.all : ∀ {xs : List PyData}, (∀ x ∈ xs, SH x) → PyData.canLayAll0 xs = true ∧ PyData.intsShortAll 13 xs = true ∧ PyData.showableAll xs = true
  | [], _ => ⟨by simp only [PyData.canLayAll0], by simp only [PyData.intsShortAll], by simp only [PyData.showableAll]⟩
  | x :: xs, h => by
    obtain ⟨a, b, c⟩ := h x (List.mem_cons_self ..)
    obtain ⟨a2, b2, c2⟩ := SH.all fun y hy => h y (List.mem_cons_of_mem _ hy)
    exact ⟨by simp only [PyData.canLayAll0, a, a2, Bool.and_self], by simp only [PyData.intsShortAll, b, b2, Bool.and_self], by simp only [PyData.showableAll, c, c2, Bool.and_self]⟩
theorem SH.tup {xs : List PyData} (h : ∀ x ∈ xs, SH x) : SH (.tuple xs) := by
  obtain ⟨a, b, c⟩ := SH.all h
  exact ⟨by simpa only [PyData.canLay0] using a, by simpa only [PyData.intsShort] using b, by simpa only [PyData.showable] using c⟩
theorem weight_all {w : Nat} : ∀ {xs : List PyData}, (∀ x ∈ xs, PyData.weight x ≤ w) → PyData.weightAll xs ≤ xs.length * (w + 1)
  | [], _ => by simp [PyData.weightAll]
  | x :: xs, h => by
    have a := h x (List.mem_cons_self ..)
    have b := weight_all fun y hy => h y (List.mem_cons_of_mem _ hy)
    simp only [PyData.weightAll, List.length_cons]
    rw [Nat.succ_mul]
    omega
theorem shw_of {d : PyData} (h : SH d) (hd : d.depth ≤ 40) (hw : d.weight ≤ 1048576) : Shw d := by
  refine ⟨h.sh, PyData.hasDict_of_canLay d h.lay, hd, ?_⟩
  have := PyProof.Rows.shown_le13 (d := d) (by
    unfold PyData.layable0
    rw [Bool.and_eq_true, Bool.and_eq_true]
    exact ⟨⟨h.lay, decide_eq_true (by omega)⟩, decide_eq_true hw⟩) h.isz
  exact Nat.le_trans this (by decide)
theorem SH.row {xs : List Str} (h : ∀ z ∈ xs, okT 100 z) : SH (rowP xs) := SH.tup fun x hx => by
  obtain ⟨z, hz, rfl⟩ := List.mem_map.mp hx
  exact SH.str (strOk_of (h z hz) (by decide))
theorem weight_row {xs : List Str} (h : ∀ z ∈ xs, okT 100 z) : PyData.weight (rowP xs) ≤ xs.length * 101 := by
  have := weight_all (w := 100) (xs := xs.map PyData.str) fun x hx => by
    obtain ⟨z, hz, rfl⟩ := List.mem_map.mp hx
    exact (h z hz).1
  rw [List.length_map] at this
  exact this
theorem weight_int {n : Nat} (h : n ≤ 1000) : PyData.weight (.int (n : Int)) ≤ 10 := by
  simp only [PyData.weight]
  split
  · omega
  · rename_i h0
    rw [Int.natAbs_natCast]
    have h1 : n ≠ 0 := fun z => h0 (by rw [z]; rfl)
    have : n.log2 < 10 := (Nat.log2_lt h1).mpr (Nat.lt_of_le_of_lt h (by decide))
    omega
theorem shw_row {xs : List Str} (h : ∀ z ∈ xs, okT 100 z) (hl : xs.length ≤ 4000) : Shw (rowP xs) := by
  refine shw_of (SH.row h) ?_ ?_
  · simp only [PyData.depth, depth_str]; decide
  · have := weight_row h
    have : xs.length * 101 ≤ 4000 * 101 := Nat.mul_le_mul_right _ hl
    omega
end Ek

namespace Ek
open PySem PySem.Spec PyProof.Rows L2 StX
local macro_rules
  | `(tactic| walk_at "nrm") => `(tactic| dsimp only [asgS, bks2, bk1, List.set_cons_zero, List.set_cons_succ, List.set_nil, wipeS, Sl.put, List.getElem?_cons_zero, List.getElem?_cons_succ, List.getElem?_nil, Option.getD_some, Option.getD_none, reduceIte, Nat.reduceEqDiff, List.map_nil, List.map_cons, List.nil_append, List.cons_append, List.replicate])
local macro_rules
  | `(tactic| walk_at "go1") => `(tactic| first
    | with_reducible refine es_seq ?_
    | with_reducible refine es_ret ?_
    | with_reducible refine es_retN ?_
    | with_reducible refine es_drop ?_
    | with_reducible refine es_asg ?_
    | with_reducible refine es_next ?_
    | with_reducible refine es_brk ?_
    | with_reducible refine es_cont ?_
    | with_reducible refine es_if ?_
    | with_reducible refine es_par ?_
    | with_reducible refine es_par3 ?_
    | with_reducible refine ev_op ?_
    | with_reducible refine ev_cb ?_
    | with_reducible refine ev_sl ?_
    | with_reducible refine eo_no ?_
    | with_reducible refine eo_pt ?_
    | with_reducible refine ea_cons ?_
    | with_reducible refine ea_nil ?_
    | with_reducible refine ea_star ?_
    | with_reducible refine ev_tup ?_
    | with_reducible refine ev_lst ?_
    | ((with_reducible refine ev_c (d := ?_) ?_ ?_); rotate_left; · rfl)
    | ((with_reducible refine ev_im (d := ?_) ?_ ?_); rotate_left; · rfl)
    | ((with_reducible refine ev_bo (s := ?_) ?_ ?_ ?_); rotate_left; (· rfl); (· rfl))
    | with_reducible refine ev_andV ?_
    | with_reducible refine ev_orV ?_
    | with_reducible refine ev_notV ?_
    | with_reducible refine ev_if ?_
    | with_reducible refine ev_neg ?_
    | with_reducible refine ev_isN ?_
    | with_reducible refine ev_notN ?_
    | with_reducible refine ev_cal2 ?_
    | refine Exists.intro _ (And.intro (a := Ags _ _ _ = some _) rfl (And.intro (a := ndB _ = true) rfl ?_))
    | with_reducible refine ev_chainI (fun _ _ => rfl) ?_
    | with_reducible refine et_test ?_
    | with_reducible refine et_val ?_
    | with_reducible refine et_and ?_
    | with_reducible refine et_or ?_
    | with_reducible refine et_not ?_
    | with_reducible refine ap_addI ?_
    | with_reducible refine ap_sub ?_
    | with_reducible refine ap_lt ?_
    | with_reducible refine ap_le ?_
    | with_reducible refine ap_gt ?_
    | with_reducible refine ap_ge ?_
    | with_reducible refine ap_eqI ?_
    | with_reducible refine ap_neI ?_
    | with_reducible refine ap_eqS ?_
    | with_reducible refine ap_neS ?_
    | with_reducible refine ap_max ?_
    | with_reducible refine ap_max3 ?_
    | with_reducible refine ap_min ?_
    | with_reducible refine ap_abs ?_
    | with_reducible refine ap_int ?_
    | with_reducible refine ap_intB ?_
    | ((with_reducible refine ap_len (ds := ?_) ?_ ?_); rotate_left; · rfl)
    | with_reducible refine ap_slT ?_
    | with_reducible refine ap_addT ?_ ?_
    | with_reducible refine ap_inS ?_
    | with_reducible refine ap_tupT ?_
    | ((with_reducible refine ap_tupL (ds := ?_) ?_ ?_); rotate_left; · rfl)
    | ((with_reducible refine ap_list (ds := ?_) ?_ ?_); rotate_left; · rfl)
    | refine ap_isi (b := true) rfl rfl (by decide +kernel) ?_
    | refine ap_isi (b := false) rfl rfl (by decide +kernel) ?_
    | with_reducible refine et_yes ?_
    | refine And.intro (a := List.length _ ≤ sizeLine) (of_decide_eq_true rfl) ?_
    | refine ap_ixO (i := 0) rfl rfl ?_
    | refine ap_ixO (i := 1) rfl rfl ?_
    | refine ap_ixO (i := 2) rfl rfl ?_
    | refine ap_ixO (i := 0) rfl (atI_nat (j := 0) rfl) ?_
    | with_reducible refine ei_any ?_
    | with_reducible refine ei_rng1 ?_
    | with_reducible refine ei_rng2 ?_
    | with_reducible refine ei_rng3 ?_
    | with_reducible refine ei_enumT ?_
    | with_reducible refine ⟨fun _ => ?_, fun (e : true = false) => nomatch e⟩
    | refine ⟨fun (e : (!true) = true) => Bool.noConfusion (show false = true from e), fun _ => ?_⟩
    | refine ⟨fun _ => ?_, fun (e : (!false) = false) => Bool.noConfusion (show true = false from e)⟩
    | with_reducible refine ⟨fun (e : false = true) => nomatch e, fun _ => ?_⟩
    | (with_reducible refine ⟨_, rfl, ?_⟩))
local macro_rules
  | `(tactic| walk_at "go") => `(tactic| repeat walk_at "go1")

/-! ### what is shown here -/
theorem chain_lt {one other : List Str} : ∀ {ps : List (Nat × Nat)} {h t : Nat}, Chain one other h t ps → ∀ q ∈ ps, q.1 < one.length ∧ q.2 < other.length
  | [], _, _, _, q, hq => by cases hq
  | p :: ps, _, _, .cons _ _ h3 h4 _ h6, q, hq => by
    rcases List.mem_cons.mp hq with z | z
    · rw [z]; exact ⟨h3, h4⟩
    · exact chain_lt h6 q z
theorem prs_lt (one other : List Str) : ∀ q ∈ prs one other, q.1 < one.length ∧ q.2 < other.length := chain_lt (prsF_chain (one := one) (other := other) rfl)
theorem SH.pair {p : Nat × Nat} (h1 : p.1 ≤ 1000) (h2 : p.2 ≤ 1000) : SH (prP p) := SH.tup fun x hx => by
  rcases List.mem_cons.mp hx with z | z
  · rw [z]; exact SH.int h1
  · rw [show x = _ from by simpa using z]; exact SH.int h2
theorem shw_pairs {one other : List Str} (h1 : okR one) (h2 : okR other) : Shw (.tuple ((prs one other).map prP)) := by
  have n1 := h1.1
  have n2 := h2.1
  have hl := prs_len_le one other
  have hp : ∀ q ∈ prs one other, q.1 ≤ 1000 ∧ q.2 ≤ 1000 := fun q hq => by
    have := prs_lt one other q hq
    omega
  refine shw_of (SH.tup fun x hx => ?_) ?_ ?_
  · obtain ⟨q, hq, rfl⟩ := List.mem_map.mp hx
    exact SH.pair (hp q hq).1 (hp q hq).2
  · have := depth_pr (prs one other)
    rw [PyData.depth]; omega
  · have := weight_all (w := 30) (xs := (prs one other).map prP) fun x hx => by
      obtain ⟨q, hq, rfl⟩ := List.mem_map.mp hx
      have a := weight_int (hp q hq).1
      have b := weight_int (hp q hq).2
      simp only [PyData.weight, PyData.weightAll] at a b ⊢
      omega
    rw [List.length_map] at this
    rw [PyData.weight]
    omega
theorem Pre.le {one other : List Str} {f : List Blk} {i j : Nat} (h : Pre one other f i j) : ∀ c, Blk.keep c ∈ f → c ≤ one.length := by
  induction h with
  | nil => intro c hc; cases hc
  | keep _ g1 g2 g3 g4 ih =>
    intro c hc
    rcases List.mem_append.mp hc with z | z
    · exact ih c z
    · have e : Blk.keep c = _ := List.mem_singleton.mp z
      cases e
      omega
  | turn _ g1 g2 g3 g4 g5 ih =>
    intro c hc
    rcases List.mem_append.mp hc with z | z
    · exact ih c z
    · have e : Blk.keep c = _ := List.mem_singleton.mp z
      cases e
theorem shw_blocks {one other : List Str} (h1 : okR one) (h2 : okR other) : Shw (.tuple ((blocks one other).map blkP)) := by
  have pr := blocks_pre one other
  obtain ⟨ok, hl⟩ := pr.ok h1.1 h2.1 h1.2 h2.2
  have n1 := h1.1
  have n2 := h2.1
  have each : ∀ b ∈ blocks one other, SH (blkP b) ∧ PyData.weight (blkP b) ≤ 9000 := fun b hb => by
    have okb := ok b hb
    cases b with
    | keep c =>
      have hc : c ≤ 1000 := by have := pr.le c hb; omega
      refine ⟨SH.tup fun x hx => ?_, ?_⟩
      · rcases List.mem_cons.mp hx with z | z
        · rw [z]; exact SH.str strOk_keep
        · rw [show x = _ from by simpa using z]; exact SH.int hc
      · have a := weight_int hc
        have s : PyData.weight (.str "keep") ≤ 10 := by decide +kernel
        simp only [blkP, PyData.weight, PyData.weightAll] at a s ⊢
        omega
    | turn a b =>
      obtain ⟨l1, l2, o1, o2⟩ := okb
      refine ⟨SH.tup fun x hx => ?_, ?_⟩
      · rcases List.mem_cons.mp hx with z | z
        · rw [z]; exact SH.str strOk_turn
        · rcases List.mem_cons.mp z with z | z
          · rw [z]; exact SH.row o1
          · rw [show x = _ from by simpa using z]; exact SH.row o2
      · have w1 := weight_row o1
        have w2 := weight_row o2
        have s : PyData.weight (.str "turn") ≤ 10 := by decide +kernel
        have w3 : a.length * 101 ≤ 40 * 101 := Nat.mul_le_mul_right _ l1
        have w4 : b.length * 101 ≤ 40 * 101 := Nat.mul_le_mul_right _ l2
        simp only [blkP, PyData.weight, PyData.weightAll] at w1 w2 s ⊢
        omega
  refine shw_of (SH.tup fun x hx => ?_) ?_ ?_
  · obtain ⟨q, hq, rfl⟩ := List.mem_map.mp hx
    exact (each q hq).1
  · have := depthAll_blk (blocks one other)
    rw [PyData.depth]; omega
  · have := weight_all (w := 9000) (xs := (blocks one other).map blkP) fun x hx => by
      obtain ⟨q, hq, rfl⟩ := List.mem_map.mp hx
      exact (each q hq).2
    rw [List.length_map] at this
    rw [PyData.weight]
    have : (blocks one other).length * (9000 + 1) ≤ 80 * 9001 := Nat.mul_le_mul_right _ (by omega)
    omega
theorem range_map_get {α : Type} {g : α → Dt} {l : List α} : (List.range l.length).map (fun i => (l[i]?.map g).getD .non) = l.map g := by
  apply List.ext_getElem?
  intro i
  rw [List.getElem?_map, List.getElem?_map]
  by_cases h : i < l.length
  · rw [List.getElem?_range h, List.getElem?_eq_getElem h]
    simp [List.getElem?_eq_getElem h]
  · rw [List.getElem?_eq_none (by rw [List.length_range]; omega), List.getElem?_eq_none (by omega)]
    rfl
theorem okR_rev {xs : List Str} (h : okR xs) : okR xs.reverse := ⟨by rw [List.length_reverse]; exact h.1, fun z hz => h.2 z (List.mem_reverse.mp hz)⟩
theorem ne_self (s : Str) : (!decide (s = s)) = false := by simp
section
variable {P : Program} {w : World} {K : PySem.W.Frag} {mg : Str → Option Value} {base : Heap}
def A__law_is_pair_right : Pr := fun δa q => ∃ one other : List Str, δa = [.im (rowD one), .im (rowD other)] ∧ okR one ∧ okR other ∧ q (.im (.bl true)) δa
set_option maxHeartbeats 4000000 in
theorem ok__law_is_pair_right (T : Tx mg) (c__law_blocks : CalR P w K mg base CX0 3 "_law_blocks" (FD K A__law_blocks)) (c__law_pairs : CalR P w K mg base CX0 2 "_law_pairs" (FD K A__law_pairs)) (c_changed : CalR P w K mg base CX0 4 "changed" (FD K A_changed)) (c_changes : CalR P w K mg base CX0 4 "changes" (FD K A_changes)) (c_common : CalR P w K mg base CX0 3 "common" (FD K A_common)) {f : Addr} {fd : FuncData} (F : Fn K "_law_is_pair_right" s__law_is_pair_right f fd) (hm : mg "_law_is_pair_right" = some (.ref f)) (hb : Binds K fd ["one", "other"] []) : CalR P w K mg base CX0 5 "_law_is_pair_right" (FD K A__law_is_pair_right) := by
  refine cal_fd 2 [] F hm sc__law_is_pair_right hb .nil rfl rfl (fun δa q hA => by simp only [A__law_is_pair_right] at hA; (repeat obtain ⟨_, hA⟩ := hA); simp only [*, List.length_cons, List.length_nil]) fun cdv Ar outer s H E hG hr => ?_
  have hu : (Ar.deeper (envOfC "_law_is_pair_right" (defScope s__law_is_pair_right) s.heap.objs.size f cdv)).units + 65 < cLine := by have := hr.un; omega
  refine ⟨_, (pss_cons (ps_set (i := 2) sc__law_is_pair_right.nd rfl (Or.inl rfl) (pe_callTy (k_tup (K := K) rfl) (by rfl) T.z_tuple (by decide +kernel) (pa_cons (pe_cal c__law_pairs hG (hr.mono (by decide)) pass0 (pa_cons (pv 0) (pa_cons (pv 1) pa_nil))) pa_nil))) (pss_cons (ps_if (PW.pt (pw_or (pt_cmpR (k_ne (K := K) rfl hu) (pe_callB (k_repr (K := K) rfl hG hu) (by rfl) T.z_repr (by decide +kernel) (pa_cons (pe_cal c_common hG (hr.mono (by decide)) pass0 (pa_cons (pv 0) (pa_cons (pv 1) pa_nil))) pa_nil)) (pe_callB (k_repr (K := K) rfl hG hu) (by rfl) T.z_repr (by decide +kernel) (pa_cons (pv 2) pa_nil)) (nomark _)) (pw_or1 (pt_cmpR (k_ne (K := K) rfl hu) (pe_callB (k_len (K := K) rfl) (by rfl) T.z_len (by decide +kernel) (pa_cons (pe_cal c_common hG (hr.mono (by decide)) pass0 (pa_cons (pv 1) (pa_cons (pv 0) pa_nil))) pa_nil)) (pe_callB (k_len (K := K) rfl) (by rfl) T.z_len (by decide +kernel) (pa_cons (pv 2) pa_nil)) (nomark _))))) (pss_one (ps_ret pe_bl)) pss_nil) (pss_cons (ps_set (i := 3) sc__law_is_pair_right.nd rfl (Or.inl rfl) (pe_cal c_changes hG (hr.mono (by decide)) pass0 (pa_cons (pv 0) (pa_cons (pv 1) pa_nil)))) (pss_cons (ps_if (PW.pt (pw_or (pt_cmpR (k_ne (K := K) rfl hu) (pe_callB (k_repr (K := K) rfl hG hu) (by rfl) T.z_repr (by decide +kernel) (pa_cons (pv 3) pa_nil)) (pe_callB (k_repr (K := K) rfl hG hu) (by rfl) T.z_repr (by decide +kernel) (pa_cons (pe_cal c__law_blocks hG (hr.mono (by decide)) pass0 (pa_cons (pv 0) (pa_cons (pv 1) pa_nil))) pa_nil)) (nomark _)) (pw_or1 (pt_cmpR (k_ne (K := K) rfl hu) (pe_callB (k_repr (K := K) rfl hG hu) (by rfl) T.z_repr (by decide +kernel) (pa_cons (pe_cal c_changed hG (hr.mono (by decide)) pass0 (pa_cons (pv 0) (pa_cons (pv 3) pa_nil))) pa_nil)) (pe_callB (k_repr (K := K) rfl hG hu) (by rfl) T.z_repr (by decide +kernel) (pa_cons (pv 1) pa_nil)) (nomark _))))) (pss_one (ps_ret pe_bl)) pss_nil) (pss_cons (ps_set (i := 4) sc__law_is_pair_right.nd rfl (Or.inl rfl) (pe_callTy (k_tup (K := K) rfl) (by rfl) T.z_tuple (by decide +kernel) (pa_cons (pe_lc (own := [("block", 5)]) rfl sc__law_is_pair_right.nd (k_iany (K := K) rfl (pv 3)) (blkOk_by (N := ["one", "other", "pairs", "blocks", "back", "block"]) (sc := defScope s__law_is_pair_right) (by decide +kernel)) (fun _ _ _ _ _ => (pg_name (i := 5) sc__law_is_pair_right.nd rfl (Or.inl rfl))) (fun _ _ _ _ _ => pts_nil) (fun _ _ _ _ _ => (pe_ifExp (pt_cmpR (k_eq (K := K) rfl hu) (pe_ix (k_ix (K := K) rfl hu) (pv 5) pe_int (fun _ _ => rfl)) pe_str (nomark _)) (pv 5) (pe_tup (pa_cons pe_str (pa_cons (pe_ix (k_ix (K := K) rfl hu) (pv 5) pe_int (fun _ _ => rfl)) (pa_cons (pe_ix (k_ix (K := K) rfl hu) (pv 5) pe_int (fun _ _ => rfl)) pa_nil))))))) pa_nil))) (pss_cons (ps_if (pt_cmpR (k_ne (K := K) rfl hu) (pe_callB (k_repr (K := K) rfl hG hu) (by rfl) T.z_repr (by decide +kernel) (pa_cons (pe_cal c_changed hG (hr.mono (by decide)) pass0 (pa_cons (pv 1) (pa_cons (pv 4) pa_nil))) pa_nil)) (pe_callB (k_repr (K := K) rfl hG hu) (by rfl) T.z_repr (by decide +kernel) (pa_cons (pv 0) pa_nil)) (nomark _)) (pss_one (ps_ret pe_bl)) pss_nil) (pss_one (ps_ret (pe_cmpR (k_eq (K := K) rfl hu) (pe_callB (k_len (K := K) rfl) (by rfl) T.z_len (by decide +kernel) (pa_cons (pe_cal c_common hG (hr.mono (by decide)) pass0 (pa_cons (k_rev (K := K) rfl (pv 0)) (pa_cons (k_rev (K := K) rfl (pv 1)) pa_nil))) pa_nil)) (pe_callB (k_len (K := K) rfl) (by rfl) T.z_len (by decide +kernel) (pa_cons (pv 2) pa_nil)) (nomark _)))))))))), fun δa q hA => ?_⟩
  obtain ⟨one, other, rfl, h1, h2, h⟩ := hA
  change Es K _ [_, _, Sl.un, Sl.un, Sl.un, Sl.un] _
  have le1 : one.length ≤ 1000 := Nat.le_trans h1.1 (by decide)
  have le2 : other.length ≤ 1000 := Nat.le_trans h2.1 (by decide)
  have pyp : (Dt.tup ((prs one other).map prD)).py = some (.tuple ((prs one other).map prP)) := by simp only [Dt.py, pyAll_pr, Option.map_some]
  walk_at "go"
  refine ⟨one, other, rfl, le1, le2, trivial, ?_⟩
  walk_at "nrm"
  walk_at "go"
  refine ⟨of_decide_eq_true rfl, ?_⟩
  walk_at "nrm"
  walk_at "go"
  refine ⟨one, other, rfl, h1, h2, trivial, ?_⟩
  walk_at "nrm"
  walk_at "go"
  refine ap_repr rfl pyp (shw_pairs h1 h2) ?_
  walk_at "go"
  refine ap_repr rfl pyp (shw_pairs h1 h2) ?_
  walk_at "go"
  rw [ne_self]
  walk_at "go"
  refine ⟨other, one, rfl, h2, h1, trivial, ?_⟩
  walk_at "nrm"
  walk_at "go"
  have el : (!decide ((((prs other one).map prD).length : Int) = (((prs one other).map prD).length : Int))) = false := by
    rw [List.length_map, List.length_map, prs_len_comm]; simp
  rw [el]
  walk_at "go"
  try walk_at "nrm"
  walk_at "go"
  refine ⟨one, other, rfl, h1, h2, trivial, ?_⟩
  refine ⟨of_decide_eq_true rfl, ?_⟩
  walk_at "nrm"
  walk_at "go"
  have pyb : (Dt.tup ((blocks one other).map blkD)).py = some (.tuple ((blocks one other).map blkP)) := by simp only [Dt.py, pyAll_blk, Option.map_some]
  have pr := blocks_pre one other
  obtain ⟨okb, lb⟩ := pr.ok h1.1 h2.1 h1.2 h2.2
  have n1 := h1.1
  have n2 := h2.1
  refine ap_repr rfl pyb (shw_blocks h1 h2) ?_
  walk_at "go"
  refine ⟨one, other, rfl, h1, h2, trivial, ?_⟩
  walk_at "nrm"
  walk_at "go"
  refine ap_repr rfl pyb (shw_blocks h1 h2) ?_
  walk_at "go"
  rw [ne_self]
  walk_at "go"
  refine ⟨one, blocks one other, other, rfl, h1, by omega, okb, pr.full, by omega, trivial, ?_⟩
  walk_at "nrm"
  walk_at "go"
  refine ap_repr rfl (py_row other) (shw_row h2.2 (by omega)) ?_
  walk_at "go"
  refine ap_repr rfl (py_row other) (shw_row h2.2 (by omega)) ?_
  walk_at "go"
  rw [ne_self]
  walk_at "go"
  try walk_at "nrm"
  walk_at "go"
  refine ev_lcN ?_
  walk_at "go"
  refine ⟨[5], fun i => ((blocks one other)[i]?.map fun b => blkD b.swap).getD .non, rfl, rfl, by rw [List.length_map]; exact Nat.lt_of_le_of_lt (show _ ≤ 80 by omega) (by decide), fun i d hd => ?_, ?_⟩
  · obtain ⟨b, hb2, rfl⟩ := get_map hd
    refine eg_name (of_decide_eq_true rfl) ?_
    walk_at "nrm"
    rw [hb2]
    cases b with
    | keep c =>
      change Ev K _ [_, _, _, _, _, .im (.tup [.str "keep", .int c])] _
      walk_at "go"
      exact ⟨rfl, rfl⟩
    | turn a b =>
      change Ev K _ [_, _, _, _, _, .im (.tup [.str "turn", rowD a, rowD b])] _
      walk_at "go"
      exact ⟨rfl, rfl⟩
  rw [List.length_map, range_map_get (g := fun b : Blk => blkD b.swap), show (blocks one other).map (fun b => blkD b.swap) = ((blocks one other).map Blk.swap).map blkD by rw [List.map_map]; rfl]
  walk_at "go"
  refine ⟨of_decide_eq_true rfl, ?_⟩
  walk_at "nrm"
  walk_at "go"
  have prs2 := pr.swap
  obtain ⟨okb2, lb2⟩ := prs2.ok h2.1 h1.1 h2.2 h1.2
  refine ⟨other, (blocks one other).map Blk.swap, one, rfl, h2, by omega, okb2, prs2.full, by omega, trivial, ?_⟩
  walk_at "nrm"
  walk_at "go"
  refine ap_repr rfl (py_row one) (shw_row h1.2 (by omega)) ?_
  walk_at "go"
  refine ap_repr rfl (py_row one) (shw_row h1.2 (by omega)) ?_
  walk_at "go"
  rw [ne_self]
  walk_at "go"
  try walk_at "nrm"
  walk_at "go"
  refine ev_revT ?_
  walk_at "go"
  refine ev_revT ?_
  walk_at "go"
  rw [← List.map_reverse, ← List.map_reverse]
  refine ⟨one.reverse, other.reverse, rfl, okR_rev h1, okR_rev h2, trivial, ?_⟩
  walk_at "nrm"
  walk_at "go"
  have er : decide ((((prs one.reverse other.reverse).map prD).length : Int) = (((prs one other).map prD).length : Int)) = true := by
    rw [List.length_map, List.length_map, prs_len_rev]; simp
  rw [er]
  exact ⟨_, rfl, h⟩
end
end Ek

/-! Ek16: a call that takes a list just made, and may write it. -/
namespace Ek
open PySem PySem.Spec PyProof.Rows L2
section
variable {K : PySem.W.Frag} {W : Wd} {F H : Hp} {σ σ' : L2.St} {δ δ' : List Sl} {pd pd' : List (V × Sl)} {P : Rs → List Sl → Prop}
theorem Sat.reix (h : Sat K W F H σ δ pd) (f : Ix → Option Ix) (hl : δ'.length = σ'.length) (inj : ∀ x y z, f x = some z → f y = some z → x = y)
    (hc : ∀ x, (∃ z, f x = some z ∧ cell σ' δ' pd' x = cell σ δ pd z) ∨ (f x = none ∧ (cell σ' δ' pd' x).2 = .un)) : Sat K W F H σ' δ' pd' := by
  obtain ⟨ad, h⟩ := h
  have m : ∀ x a, a ∈ ((f x).map ad).getD [] → ∃ z, f x = some z ∧ a ∈ ad z := fun x a ha => by
    cases e : f x with
    | none => rw [e] at ha; cases ha
    | some z => rw [e] at ha; exact ⟨z, rfl, ha⟩
  refine ⟨fun x => ((f x).map ad).getD [], hl, fun x => ?_, fun x y a hx hy => ?_, fun x => ?_, h.wk.mono fun a ⟨x, hx⟩ => ?_⟩
  · rcases hc x with ⟨z, e, c⟩ | ⟨e, c⟩
    · rw [e, c]; exact h.own z
    · rw [e]
      show OwnS K W F H _ [] _
      rw [c]
      rfl
  · obtain ⟨z1, e1, m1⟩ := m x a hx
    obtain ⟨z2, e2, m2⟩ := m y a hy
    have := h.dis z1 z2 a m1 m2
    subst this
    exact inj _ _ _ e1 e2
  · cases e : f x with
    | none => exact List.nodup_nil
    | some z => exact h.nod z
  · obtain ⟨z, _, m1⟩ := m x a hx
    exact ⟨z, m1⟩
/-- what is pending becomes a slot of its own -/
theorem Sat.pdSlot {v : V} {s : Sl} (h : Sat K W F H σ δ (pd ++ [(v, s)])) : Sat K W F H (σ ++ [some v]) (δ ++ [s]) pd := by
  obtain ⟨ad, hA⟩ := id h
  have len := hA.len
  refine h.reix (fun x => match x with | .inl i => if i < σ.length then some (.inl i) else if i = σ.length then some (.inr pd.length) else none | .inr k => if k < pd.length then some (.inr k) else none)
    (by rw [List.length_append, List.length_append, len]; rfl) (fun x y z h1 h2 => ?_) fun x => ?_
  · cases x with
    | inl i =>
      cases y with
      | inl j =>
        dsimp only at h1 h2
        split at h1
        · cases h1; split at h2
          · cases h2; rfl
          · split at h2 <;> cases h2
        · split at h1
          · cases h1; split at h2
            · cases h2
            · split at h2
              · congr 1; omega
              · cases h2
          · cases h1
      | inr j =>
        dsimp only at h1 h2
        split at h2
        · cases h2
          split at h1
          · cases h1
          · split at h1
            · simp only [Option.some.injEq, Sum.inr.injEq] at h1; omega
            · cases h1
        · cases h2
    | inr i =>
      cases y with
      | inl j =>
        dsimp only at h1 h2
        split at h1
        · cases h1
          split at h2
          · cases h2
          · split at h2
            · simp only [Option.some.injEq, Sum.inr.injEq] at h2; omega
            · cases h2
        · cases h1
      | inr j =>
        dsimp only at h1 h2
        split at h1
        · cases h1
          split at h2
          · cases h2; rfl
          · cases h2
        · cases h1
  · cases x with
    | inl i =>
      dsimp only
      by_cases h1 : i < σ.length
      · left
        rw [if_pos h1]
        refine ⟨_, rfl, ?_⟩
        simp only [cell]
        rw [List.getElem?_append_left h1, List.getElem?_append_left (by omega)]
      · rw [if_neg h1]
        by_cases h2 : i = σ.length
        · left
          rw [if_pos h2]
          refine ⟨_, rfl, ?_⟩
          subst h2
          simp only [cell]
          rw [List.getElem?_append_right (Nat.le_refl _), List.getElem?_append_right (by omega), Nat.sub_self, len, Nat.sub_self]
          simp
        · right
          rw [if_neg h2]
          refine ⟨rfl, ?_⟩
          simp only [cell]
          rw [List.getElem?_eq_none (l := δ ++ [s]) (by rw [List.length_append, List.length_singleton]; omega)]
          rfl
    | inr k =>
      dsimp only
      by_cases h1 : k < pd.length
      · left
        rw [if_pos h1]
        refine ⟨_, rfl, ?_⟩
        simp only [cell]
        rw [List.getElem?_append_left h1]
      · right
        rw [if_neg h1]
        refine ⟨rfl, ?_⟩
        simp only [cell]
        rw [List.getElem?_eq_none (by omega)]
/-- the last slot is forgotten -/
theorem Sat.dropSlot {o : Option V} {s : Sl} (h : Sat K W F H (σ ++ [o]) (δ ++ [s]) pd) : Sat K W F H σ δ pd := by
  obtain ⟨ad, hA⟩ := id h
  have len := hA.len
  rw [List.length_append, List.length_append, List.length_singleton, List.length_singleton] at len
  refine h.reix (fun x => match x with | .inl i => if i < σ.length then some (.inl i) else none | .inr k => some (.inr k)) (by omega) (fun x y z h1 h2 => ?_) fun x => ?_
  · cases x <;> cases y <;> dsimp only at h1 h2
    · split at h1
      · cases h1; split at h2
        · cases h2; rfl
        · cases h2
      · cases h1
    · cases h2; split at h1 <;> cases h1
    · cases h1; split at h2 <;> cases h2
    · cases h1; cases h2; rfl
  · cases x with
    | inl i =>
      dsimp only
      by_cases h1 : i < σ.length
      · left
        rw [if_pos h1]
        refine ⟨_, rfl, ?_⟩
        simp only [cell]
        rw [List.getElem?_append_left h1, List.getElem?_append_left (by omega)]
      · right
        rw [if_neg h1]
        refine ⟨rfl, ?_⟩
        simp only [cell]
        rw [List.getElem?_eq_none (l := δ) (by omega)]
        rfl
    | inr k => left; exact ⟨_, rfl, rfl⟩
theorem ev_calT {A : List Sl → (Sl → List Sl → Prop) → Prop} {E : XK} {ta : TA}
    (h : Ea K ta δ fun rs δ1 => ∃ ds, rs = [.sl (.ls ds)] ∧ A [.ln 0 ds] fun s δa' => (∃ ds', δa' = [.ln 0 ds']) ∧ P (.sl s) δ1) : Ev K (tCal (FD K A) E ta) δ P := fun W F H σ pd S Q q => by
  refine h W F H σ pd S _ fun F1 H1 vs rs δ1 h1 oks S1 => ?_
  obtain ⟨ds, rfl, hA⟩ := h1
  obtain ⟨v, rfl, _⟩ := oks.one
  have S2 : Sat K W F1 H1 (σ ++ [some v]) (δ1 ++ [.ls ds]) pd := Sat.pdSlot S1
  have len : δ1.length = σ.length := by obtain ⟨ad, z⟩ := S1; exact z.len
  have key : Ev K (tCal (FD K A) E (tCons (tVar σ.length) tNil)) (δ1 ++ [.ls ds]) fun r δ' => ∃ s ds', r = .sl s ∧ δ' = δ1 ++ [.ls ds'] ∧ P (.sl s) δ1 := by
    refine ev_cal2 (ea_cons (ev_bo (s := .ls ds) (by rw [← len]; simp) rfl (ea_nil ⟨[.ln 0 ds], ?_, rfl, ?_⟩)))
    · simp only [Ags, Ag]
      rw [show (δ1 ++ [Sl.ls ds])[σ.length]? = some (.ls ds) by rw [← len]; simp]
      rfl
    · have e : (fun s δa' => (∃ ds', δa' = [Sl.ln 0 ds']) ∧ P (.sl s) δ1) = fun s δa' => shp 0 [.bo σ.length] δa' ∧ ∃ s2 ds', Rs.sl s = .sl s2 ∧ bks2 (δ1 ++ [.ls ds]) [.bo σ.length] δa' = δ1 ++ [.ls ds'] ∧ P (.sl s2) δ1 := by
        funext s δa'
        refine propext ⟨?_, ?_⟩
        · rintro ⟨⟨ds', rfl⟩, p⟩
          refine ⟨⟨rfl, trivial⟩, s, ds', rfl, ?_, p⟩
          simp only [bks2, bk1]
          rw [← len]
          simp [Sl.put]
        · rintro ⟨sh, s2, ds', e1, _, p⟩
          cases e1
          cases δa' with
          | nil => exact absurd sh (by simp [shp])
          | cons x xs =>
            cases x with
            | ln k es =>
              obtain ⟨rfl, sh⟩ := sh
              cases xs with
              | nil => exact ⟨⟨es, rfl⟩, p⟩
              | cons y ys => simp [shp] at sh
            | un => simp [shp] at sh
            | im d => simp [shp] at sh
            | ls es => simp [shp] at sh
            | mt rows => simp [shp] at sh
      exact e ▸ hA
  have k2 := key W F1 H1 (σ ++ [some v]) pd S2 Q fun F' H' v' r δ' p ok S3 => by
    obtain ⟨s, ds', rfl, rfl, p⟩ := p
    exact q F' H' v' _ δ1 p trivial (Sat.dropSlot S3)
  obtain ⟨v2, e, k3⟩ := k2
  have e2 : v2 = v := by
    have : (σ ++ [some v])[σ.length]? = some (some v) := by simp
    rw [this] at e
    cases e
    rfl
  subst e2
  exact k3
end
end Ek

namespace Ek
open PySem PySem.Spec PyProof.Rows L2 StX
local macro_rules
  | `(tactic| walk_at "nrm") => `(tactic| dsimp only [asgS, bks2, bk1, List.set_cons_zero, List.set_cons_succ, List.set_nil, wipeS, Sl.put, List.getElem?_cons_zero, List.getElem?_cons_succ, List.getElem?_nil, Option.getD_some, Option.getD_none, reduceIte, Nat.reduceEqDiff, List.map_nil, List.map_cons, List.nil_append, List.cons_append, List.replicate])
local macro_rules
  | `(tactic| walk_at "go1") => `(tactic| first
    | with_reducible refine es_seq ?_
    | with_reducible refine es_ret ?_
    | with_reducible refine es_retN ?_
    | with_reducible refine es_drop ?_
    | with_reducible refine es_asg ?_
    | with_reducible refine es_next ?_
    | with_reducible refine es_brk ?_
    | with_reducible refine es_cont ?_
    | with_reducible refine es_if ?_
    | with_reducible refine es_par ?_
    | with_reducible refine es_par3 ?_
    | with_reducible refine ev_op ?_
    | with_reducible refine ev_cb ?_
    | with_reducible refine ev_sl ?_
    | with_reducible refine eo_no ?_
    | with_reducible refine eo_pt ?_
    | with_reducible refine ea_cons ?_
    | with_reducible refine ea_nil ?_
    | with_reducible refine ea_star ?_
    | with_reducible refine ev_tup ?_
    | with_reducible refine ev_lst ?_
    | ((with_reducible refine ev_c (d := ?_) ?_ ?_); rotate_left; · rfl)
    | ((with_reducible refine ev_im (d := ?_) ?_ ?_); rotate_left; · rfl)
    | ((with_reducible refine ev_bo (s := ?_) ?_ ?_ ?_); rotate_left; (· rfl); (· rfl))
    | with_reducible refine ev_andV ?_
    | with_reducible refine ev_orV ?_
    | with_reducible refine ev_notV ?_
    | with_reducible refine ev_if ?_
    | with_reducible refine ev_neg ?_
    | with_reducible refine ev_isN ?_
    | with_reducible refine ev_notN ?_
    | with_reducible refine ev_cal2 ?_
    | refine Exists.intro _ (And.intro (a := Ags _ _ _ = some _) rfl (And.intro (a := ndB _ = true) rfl ?_))
    | with_reducible refine ev_chainI (fun _ _ => rfl) ?_
    | with_reducible refine et_test ?_
    | with_reducible refine et_val ?_
    | with_reducible refine et_and ?_
    | with_reducible refine et_or ?_
    | with_reducible refine et_not ?_
    | with_reducible refine ap_addI ?_
    | with_reducible refine ap_sub ?_
    | with_reducible refine ap_lt ?_
    | with_reducible refine ap_le ?_
    | with_reducible refine ap_gt ?_
    | with_reducible refine ap_ge ?_
    | with_reducible refine ap_eqI ?_
    | with_reducible refine ap_neI ?_
    | with_reducible refine ap_eqS ?_
    | with_reducible refine ap_neS ?_
    | with_reducible refine ap_max ?_
    | with_reducible refine ap_max3 ?_
    | with_reducible refine ap_min ?_
    | with_reducible refine ap_abs ?_
    | with_reducible refine ap_int ?_
    | with_reducible refine ap_intB ?_
    | ((with_reducible refine ap_len (ds := ?_) ?_ ?_); rotate_left; · rfl)
    | with_reducible refine ap_slT ?_
    | with_reducible refine ap_addT ?_ ?_
    | with_reducible refine ap_inS ?_
    | with_reducible refine ap_tupT ?_
    | ((with_reducible refine ap_tupL (ds := ?_) ?_ ?_); rotate_left; · rfl)
    | ((with_reducible refine ap_list (ds := ?_) ?_ ?_); rotate_left; · rfl)
    | refine ap_isi (b := true) rfl rfl (by decide +kernel) ?_
    | refine ap_isi (b := false) rfl rfl (by decide +kernel) ?_
    | with_reducible refine et_yes ?_
    | refine And.intro (a := List.length _ ≤ sizeLine) (of_decide_eq_true rfl) ?_
    | refine ap_ixO (i := 0) rfl rfl ?_
    | refine ap_ixO (i := 1) rfl rfl ?_
    | refine ap_ixO (i := 2) rfl rfl ?_
    | refine ap_ixO (i := 0) rfl (atI_nat (j := 0) rfl) ?_
    | with_reducible refine ei_any ?_
    | with_reducible refine ei_rng1 ?_
    | with_reducible refine ei_rng2 ?_
    | with_reducible refine ei_rng3 ?_
    | with_reducible refine ei_enumT ?_
    | with_reducible refine ⟨fun _ => ?_, fun (e : true = false) => nomatch e⟩
    | refine ⟨fun (e : (!true) = true) => Bool.noConfusion (show false = true from e), fun _ => ?_⟩
    | refine ⟨fun _ => ?_, fun (e : (!false) = false) => Bool.noConfusion (show true = false from e)⟩
    | with_reducible refine ⟨fun (e : false = true) => nomatch e, fun _ => ?_⟩
    | (with_reducible refine ⟨_, rfl, ?_⟩))
local macro_rules
  | `(tactic| walk_at "go") => `(tactic| repeat walk_at "go1")

/-! ### the pots -/
theorem bits_60 : (Builtin.Int.intBits (10 ^ (60 : Int).toNat) : Int) ≤ 200 := by decide +kernel
theorem cp60 : CPowX (10 ^ (60 : Int).toNat) 5 := ⟨by decide, by
  have e : (Builtin.Int.intBits (10 ^ (60 : Int).toNat) : Int) * 5 ≤ 200 * 5 := Int.mul_le_mul bits_60 (Int.le_refl _) (by decide) (by decide)
  exact Int.le_trans e (by decide)⟩
theorem big_lt {x : Int} (h : x < (10 ^ (60 : Int).toNat) ^ (5 : Int).toNat) (h0 : 0 ≤ x) : x.natAbs < 2 ^ 1000 := by
  have e : ((10 : Int) ^ (60 : Int).toNat) ^ (5 : Int).toNat ≤ 2 ^ 1000 := by decide +kernel
  omega
theorem pos60 : (0 : Int) < (10 ^ (60 : Int).toNat) ^ (5 : Int).toNat := by decide +kernel
theorem cutD_map {α : Type} {g : α → Dt} {l : List α} {lo hi : Option Int} : ∃ l' : List α, cutD (l.map g) lo hi = l'.map g ∧ ∀ x ∈ l', x ∈ l := by
  refine ⟨(l.drop (HT.sIx (l.map g).length 0 lo)).take (HT.sIx (l.map g).length (l.map g).length hi - HT.sIx (l.map g).length 0 lo), ?_, fun x hx => List.mem_of_mem_drop (List.mem_of_mem_take (l := l.drop _) hx)⟩
  rw [List.map_take, List.map_drop]
  rfl
theorem cm_own {x : Int} {b : Bool} : CMulX (x % (10 ^ (60 : Int).toNat) ^ (5 : Int).toNat) (if b then 1 else 0) := by
  refine mulx_ok (a := 1000) (b := 1) (big_lt (Int.emod_lt_of_pos _ pos60) (Int.emod_nonneg _ (Int.ne_of_gt pos60))) ?_ (by decide)
  cases b <;> decide
theorem own_nn {x : Int} {b : Bool} : 0 ≤ (x % (10 ^ (60 : Int).toNat) ^ (5 : Int).toNat) * (if b then 1 else 0) := Int.mul_nonneg (Int.emod_nonneg _ (Int.ne_of_gt pos60)) (by cases b <;> decide)
theorem nab {x : Int} : (x % 2305843009213693951).natAbs < 1267650600228229401496703205376 := by omega
theorem mod_b {x m : Int} (h : 0 < m) : 0 ≤ x % m ∧ x % m < m := ⟨Int.emod_nonneg _ (by omega), Int.emod_lt_of_pos _ h⟩
section
variable {P : Program} {w : World} {K : PySem.W.Frag} {mg : Str → Option Value} {base : Heap}
local macro_rules
  | `(tactic| walk_at "pot") => `(tactic| (
    refine ⟨of_decide_eq_true rfl, ?_⟩
    walk_at "nrm"
    walk_at "go"
    refine ap_pow (cp (k := 60) (by decide) (by decide)) ?_
    walk_at "go"
    refine ap_pow cp60 ?_
    walk_at "go"
    refine ap_mod pos60 ?_
    walk_at "go"
    refine ap_pow (cp (k := 18) (by decide) (by decide)) ?_
    walk_at "go"
    refine ap_mulI cm_own ?_
    refine ⟨of_decide_eq_true rfl, ?_⟩
    walk_at "nrm"
    walk_at "go"
    refine ap_mod (by decide) ?_
    refine ⟨of_decide_eq_true rfl, ?_⟩
    walk_at "nrm"
    walk_at "go"))
def A__law_pot : Pr := fun δa q => ∃ (ns : List Int) (pl : Nat), δa = [.im (.sq (ns.map .int)), .im (.int pl)] ∧ ns.length ≤ 1000 ∧ pl ≤ 1 ∧
  ∀ a b, 0 ≤ a → 0 ≤ b → b < 2305843009213693952 → q (.ls (potD a b 0)) δa
set_option maxHeartbeats 4000000 in
theorem ok__law_pot (T : Tx mg)  {f : Addr} {fd : FuncData} (F : Fn K "_law_pot" s__law_pot f fd) (hm : mg "_law_pot" = some (.ref f)) (hb : Binds K fd ["script", "place"] []) : CalR P w K mg base CX0 1 "_law_pot" (FD K A__law_pot) := by
  refine cal_fd 2 [] F hm sc__law_pot hb .nil rfl rfl (fun δa q hA => by simp only [A__law_pot] at hA; (repeat obtain ⟨_, hA⟩ := hA); simp only [*, List.length_cons, List.length_nil]) fun cdv Ar outer s H E hG hr => ?_
  have hu : (Ar.deeper (envOfC "_law_pot" (defScope s__law_pot) s.heap.objs.size f cdv)).units + 65 < cLine := by have := hr.un; omega
  refine ⟨_, (pss_cons (ps_set (i := 2) sc__law_pot.nd rfl (Or.inl rfl) (pe_ifExp (pt_cmpR op_lt (pv 1) (pe_callB (k_len (K := K) rfl) (by rfl) T.z_len (by decide +kernel) (pa_cons (pv 0) pa_nil)) (nomark _)) (pe_ix (k_ix (K := K) rfl hu) (pv 0) (pv 1) (fun _ _ => rfl)) (pe_op (k_add (K := K) rfl) (pe_op (k_add (K := K) rfl) (pe_op op_mod (pe_callB (k_sum (K := K) rfl rfl) (by rfl) T.z_sum (by decide +kernel) (pa_cons (pe_slice (k_sl (K := K) rfl) (pv 0) po_none (po_some pe_int)) pa_nil)) pe_int) (pe_op (k_mul (K := K) rfl) pe_int (pv 1))) pe_int))) (pss_cons (ps_set (i := 3) sc__law_pot.nd rfl (Or.inl rfl) (pe_op (k_mul (K := K) rfl) (pe_op op_mod (pe_callTy call_int' (by rfl) T.z_int (by decide +kernel) (pa_cons (pe_callB call_abs' (by rfl) T.z_abs (by decide +kernel) (pa_cons (pv 2) pa_nil)) pa_nil)) (pe_op op_powX (pe_op op_powX pe_int pe_int) pe_int)) (pe_callTy call_int' (by rfl) T.z_int (by decide +kernel) (pa_cons (pe_cmpR op_ge (pe_callB call_abs' (by rfl) T.z_abs (by decide +kernel) (pa_cons (pv 2) pa_nil)) (pe_op op_powX pe_int pe_int) (nomark _)) pa_nil)))) (pss_cons (ps_set (i := 4) sc__law_pot.nd rfl (Or.inl rfl) (pe_op op_mod (pe_callTy call_int' (by rfl) T.z_int (by decide +kernel) (pa_cons (pv 2) pa_nil)) pe_int)) (pss_one (ps_ret (pe_lst (pa_cons (pv 3) (pa_cons (pe_op op_mod (pe_callTy call_int' (by rfl) T.z_int (by decide +kernel) (pa_cons (pe_op (k_add (K := K) rfl) (pe_op (k_add (K := K) rfl) (pe_op (k_mul (K := K) rfl) (pv 4) pe_int) (pe_op (k_mul (K := K) rfl) (pe_op (k_mul (K := K) rfl) pe_int (pv 1)) (pv 1))) pe_int) pa_nil)) pe_int) (pa_cons pe_int pa_nil))))))))), fun δa q hA => ?_⟩
  obtain ⟨ns, pl, rfl, hn, hp, h⟩ := hA
  change Es K _ [_, _, Sl.un, Sl.un, Sl.un] _
  walk_at "go"
  refine ⟨fun e1 => ?_, fun e1 => ?_⟩
  · have hi : pl < ns.length := by
      have := of_decide_eq_true e1
      rw [List.length_map] at this
      omega
    walk_at "go"
    refine ap_ixO (i := (pl : Int)) (ds := ns.map .int) (d := .int ns[pl]) rfl (atI_nat (by rw [List.getElem?_map, List.getElem?_eq_getElem hi]; rfl)) ?_
    walk_at "pot"
    refine ap_mulI (cm nab (by decide)) ?_
    walk_at "go"
    refine ap_mulI (cm (by decide) (by omega)) ?_
    walk_at "go"
    have hq : ((30241 * (pl : Int)).natAbs) < 1267650600228229401496703205376 := by omega
    refine ap_mulI (cm hq (by omega)) ?_
    walk_at "go"
    refine ap_mod (by decide) ?_
    walk_at "go"
    have hz := fun y => mod_b (x := y) (show (0 : Int) < 2305843009213693921 by decide)
    exact ⟨_, rfl, h _ _ own_nn (hz _).1 (Int.lt_trans (hz _).2 (by decide))⟩
  · walk_at "go"
    refine ap_slL rfl ?_
    walk_at "go"
    obtain ⟨l, e, _⟩ := cutD_map (g := Dt.int) (l := ns) (lo := none) (hi := some 1)
    refine ap_sum (ns := l) (by show some _ = _; rw [e]) ?_
    walk_at "go"
    refine ap_mod (by decide) ?_
    walk_at "go"
    refine ap_mulI (cm (by decide) (by omega)) ?_
    walk_at "go"
    walk_at "pot"
    refine ap_mulI (cm nab (by decide)) ?_
    walk_at "go"
    refine ap_mulI (cm (by decide) (by omega)) ?_
    walk_at "go"
    have hq : ((30241 * (pl : Int)).natAbs) < 1267650600228229401496703205376 := by omega
    refine ap_mulI (cm hq (by omega)) ?_
    walk_at "go"
    refine ap_mod (by decide) ?_
    walk_at "go"
    have hz := fun y => mod_b (x := y) (show (0 : Int) < 2305843009213693921 by decide)
    exact ⟨_, rfl, h _ _ own_nn (hz _).1 (Int.lt_trans (hz _).2 (by decide))⟩
end
end Ek

namespace Ek
open PySem PySem.Spec PyProof.Rows L2 StX
local macro_rules
  | `(tactic| walk_at "nrm") => `(tactic| dsimp only [asgS, bks2, bk1, List.set_cons_zero, List.set_cons_succ, List.set_nil, wipeS, Sl.put, List.getElem?_cons_zero, List.getElem?_cons_succ, List.getElem?_nil, Option.getD_some, Option.getD_none, reduceIte, Nat.reduceEqDiff, List.map_nil, List.map_cons, List.nil_append, List.cons_append, List.replicate])
local macro_rules
  | `(tactic| walk_at "go1") => `(tactic| first
    | with_reducible refine es_seq ?_
    | with_reducible refine es_ret ?_
    | with_reducible refine es_retN ?_
    | with_reducible refine es_drop ?_
    | with_reducible refine es_asg ?_
    | with_reducible refine es_next ?_
    | with_reducible refine es_brk ?_
    | with_reducible refine es_cont ?_
    | with_reducible refine es_if ?_
    | with_reducible refine es_par ?_
    | with_reducible refine es_par3 ?_
    | with_reducible refine ev_op ?_
    | with_reducible refine ev_cb ?_
    | with_reducible refine ev_sl ?_
    | with_reducible refine eo_no ?_
    | with_reducible refine eo_pt ?_
    | with_reducible refine ea_cons ?_
    | with_reducible refine ea_nil ?_
    | with_reducible refine ea_star ?_
    | with_reducible refine ev_tup ?_
    | with_reducible refine ev_lst ?_
    | ((with_reducible refine ev_c (d := ?_) ?_ ?_); rotate_left; · rfl)
    | ((with_reducible refine ev_im (d := ?_) ?_ ?_); rotate_left; · rfl)
    | ((with_reducible refine ev_bo (s := ?_) ?_ ?_ ?_); rotate_left; (· rfl); (· rfl))
    | with_reducible refine ev_andV ?_
    | with_reducible refine ev_orV ?_
    | with_reducible refine ev_notV ?_
    | with_reducible refine ev_if ?_
    | with_reducible refine ev_neg ?_
    | with_reducible refine ev_isN ?_
    | with_reducible refine ev_notN ?_
    | with_reducible refine ev_cal2 ?_
    | refine Exists.intro _ (And.intro (a := Ags _ _ _ = some _) rfl (And.intro (a := ndB _ = true) rfl ?_))
    | with_reducible refine ev_chainI (fun _ _ => rfl) ?_
    | with_reducible refine et_test ?_
    | with_reducible refine et_val ?_
    | with_reducible refine et_and ?_
    | with_reducible refine et_or ?_
    | with_reducible refine et_not ?_
    | with_reducible refine ap_addI ?_
    | with_reducible refine ap_sub ?_
    | with_reducible refine ap_lt ?_
    | with_reducible refine ap_le ?_
    | with_reducible refine ap_gt ?_
    | with_reducible refine ap_ge ?_
    | with_reducible refine ap_eqI ?_
    | with_reducible refine ap_neI ?_
    | with_reducible refine ap_eqS ?_
    | with_reducible refine ap_neS ?_
    | with_reducible refine ap_max ?_
    | with_reducible refine ap_max3 ?_
    | with_reducible refine ap_min ?_
    | with_reducible refine ap_abs ?_
    | with_reducible refine ap_int ?_
    | with_reducible refine ap_intB ?_
    | ((with_reducible refine ap_len (ds := ?_) ?_ ?_); rotate_left; · rfl)
    | with_reducible refine ap_slT ?_
    | with_reducible refine ap_addT ?_ ?_
    | with_reducible refine ap_inS ?_
    | with_reducible refine ap_tupT ?_
    | ((with_reducible refine ap_tupL (ds := ?_) ?_ ?_); rotate_left; · rfl)
    | ((with_reducible refine ap_list (ds := ?_) ?_ ?_); rotate_left; · rfl)
    | refine ap_isi (b := true) rfl rfl (by decide +kernel) ?_
    | refine ap_isi (b := false) rfl rfl (by decide +kernel) ?_
    | with_reducible refine et_yes ?_
    | refine And.intro (a := List.length _ ≤ sizeLine) (of_decide_eq_true rfl) ?_
    | refine ap_ixO (i := 0) rfl rfl ?_
    | refine ap_ixO (i := 1) rfl rfl ?_
    | refine ap_ixO (i := 2) rfl rfl ?_
    | refine ap_ixO (i := 0) rfl (atI_nat (j := 0) rfl) ?_
    | with_reducible refine ei_any ?_
    | with_reducible refine ei_rng1 ?_
    | with_reducible refine ei_rng2 ?_
    | with_reducible refine ei_rng3 ?_
    | with_reducible refine ei_enumT ?_
    | with_reducible refine ⟨fun _ => ?_, fun (e : true = false) => nomatch e⟩
    | refine ⟨fun (e : (!true) = true) => Bool.noConfusion (show false = true from e), fun _ => ?_⟩
    | refine ⟨fun _ => ?_, fun (e : (!false) = false) => Bool.noConfusion (show true = false from e)⟩
    | with_reducible refine ⟨fun (e : false = true) => nomatch e, fun _ => ?_⟩
    | (with_reducible refine ⟨_, rfl, ?_⟩))
local macro_rules
  | `(tactic| walk_at "go") => `(tactic| repeat walk_at "go1")

/-! ### a row bent -/
theorem cut_le {xs : List Dt} {lo hi : Option Int} : (cutD xs lo hi).length ≤ xs.length := by
  unfold cutD
  rw [List.length_take, List.length_drop]
  omega
theorem cut40 {xs : List Dt} : (cutD xs none (some 40)).length ≤ 40 := by
  unfold cutD
  rw [List.length_take, show HT.sIx xs.length xs.length (some 40) = min 40 xs.length from HT.sIx_nat _ _ 40]
  omega
theorem pow_step {n t : Nat} (h : n + 1 ≤ 41 * 2 ^ t) (ht : t < 7) : 2 * n + 1 + 1 ≤ 41 * 2 ^ (t + 1) ∧ n ≤ 5248 := by
  have e : (2 : Nat) ^ (t + 1) = 2 * 2 ^ t := by rw [Nat.pow_succ, Nat.mul_comm]
  have e2 : (2 : Nat) ^ t ≤ 2 ^ 7 := Nat.pow_le_pow_right (by decide) (by omega)
  have e3 : (2 : Nat) ^ 7 = 128 := by decide
  rw [e]
  omega
theorem flat1 {α : Type} {d : α} (k : Nat) : (List.replicate k [d]).flatten = List.replicate k d := by
  induction k with
  | zero => rfl
  | succ k ih => rw [List.replicate_succ, List.flatten_cons, ih]; rfl
section
variable {P : Program} {w : World} {K : PySem.W.Frag} {mg : Str → Option Value} {base : Heap}
def A__law_bent : Pr := fun δa q => ∃ (a b c : Int) (row pool : List Str), δa = [.ln 0 (potD a b c), .im (rowD row), .im (.lst (pool.map .str))] ∧ 0 ≤ a ∧ 0 ≤ b ∧ b < 2305843009213693952 ∧ 0 ≤ c ∧ c < 900000 ∧ okR row ∧
  0 < pool.length ∧ pool.length ≤ 1000 ∧ (∀ z ∈ pool, okT 100 z) ∧
  ∀ row' a' c', okR row' → 0 ≤ a' → c ≤ c' → c' ≤ c + 40 → q (.im (rowD row')) [.ln 0 (potD a' b c'), .im (rowD row), .im (.lst (pool.map .str))]
set_option maxHeartbeats 4000000 in
theorem ok__law_bent (T : Tx mg) (c__law_of : CalR P w K mg base CX0 2 "_law_of" (FD K A__law_of)) (c__law_take : CalR P w K mg base CX0 1 "_law_take" (FD K A__law_take)) {f : Addr} {fd : FuncData} (F : Fn K "_law_bent" s__law_bent f fd) (hm : mg "_law_bent" = some (.ref f)) (hb : Binds K fd ["pot", "row", "pool"] []) : CalR P w K mg base CX0 3 "_law_bent" (FD K A__law_bent) := by
  refine cal_fd 3 [] F hm sc__law_bent hb .nil rfl rfl (fun δa q hA => by simp only [A__law_bent] at hA; (repeat obtain ⟨_, hA⟩ := hA); simp only [*, List.length_cons, List.length_nil]) fun cdv Ar outer s H E hG hr => ?_
  have hu : (Ar.deeper (envOfC "_law_bent" (defScope s__law_bent) s.heap.objs.size f cdv)).units + 65 < cLine := by have := hr.un; omega
  refine ⟨_, (pss_cons (ps_set (i := 1) sc__law_bent.nd rfl (Or.inl rfl) (pe_callTy (k_list (K := K) rfl) (by rfl) T.z_list (by decide +kernel) (pa_cons (pv 1) pa_nil))) (pss_cons (ps_for PassesOwn.never rfl (pi_range1 rfl T.z_range (pa_cons (pe_cal c__law_take hG (hr.mono (by decide)) pass0 (pa_cons (pv 0) (pa_cons pe_int pa_nil))) pa_nil)) (pg_name (i := 3) sc__law_bent.nd rfl (Or.inl rfl)) (pss_cons (ps_set (i := 4) sc__law_bent.nd rfl (Or.inl rfl) (pe_cal c__law_take hG (hr.mono (by decide)) pass0 (pa_cons (pv 0) (pa_cons (pe_op (k_add (K := K) rfl) (pe_callB (k_len (K := K) rfl) (by rfl) T.z_len (by decide +kernel) (pa_cons (pv 1) pa_nil)) pe_int) pa_nil)))) (pss_one (ps_set (i := 1) sc__law_bent.nd rfl (Or.inl rfl) (pe_op (k_add (K := K) rfl) (pe_op (k_add (K := K) rfl) (pe_slice (k_sl (K := K) rfl) (pv 1) po_none (po_some (pv 4))) (pe_op (k_mul (K := K) rfl) (pe_lst (pa_cons (pe_cal c__law_of hG (hr.mono (by decide)) pass0 (pa_cons (pv 0) (pa_cons (pv 2) pa_nil))) pa_nil)) (pe_cal c__law_take hG (hr.mono (by decide)) pass0 (pa_cons (pv 0) (pa_cons pe_int pa_nil))))) (pe_slice (k_sl (K := K) rfl) (pv 1) (po_some (pe_op (k_add (K := K) rfl) (pv 4) (pe_cal c__law_take hG (hr.mono (by decide)) pass0 (pa_cons (pv 0) (pa_cons pe_int pa_nil))))) po_none)))))) (pss_one (ps_ret (pe_callTy (k_tup (K := K) rfl) (by rfl) T.z_tuple (by decide +kernel) (pa_cons (pe_slice (k_sl (K := K) rfl) (pv 1) po_none (po_some pe_int)) pa_nil)))))), fun δa q hA => ?_⟩
  obtain ⟨a, b, c, row, pool, rfl, ha, hb0, hb1, hc0, hc1, hr0, hp0, hp1, hpo, h⟩ := hA
  change Es K _ [_, _, _, Sl.un, Sl.un] _
  walk_at "go"
  refine ⟨of_decide_eq_true rfl, ?_⟩
  walk_at "nrm"
  refine es_seq (es_for ?_)
  walk_at "go"
  refine ⟨a, b, c, 8, rfl, ha, hb0, hb1, hc0, by omega, by decide, by decide, fun u a1 c1 u0 u1 ha1 hc1a hc1b => ⟨⟨rfl, trivial⟩, ?_⟩⟩
  walk_at "nrm"
  walk_at "go"
  refine ⟨by omega, by omega, ?_⟩
  refine ⟨fun t δ => ∃ (a' c' : Int) (r' : List Str) (x3 x4 : Sl), δ = [.ln 0 (potD a' b c'), .ls (r'.map .str), .im (.lst (pool.map .str)), x3, x4] ∧ 0 ≤ a' ∧ c ≤ c' ∧ c' ≤ c + 1 + 4 * t ∧ r'.length + 1 ≤ 41 * 2 ^ t ∧ ∀ z ∈ r', okT 100 z, [3],
    ⟨a1, c1, row, _, _, rfl, ha1, hc1a, by omega, by have := hr0.1; omega, hr0.2⟩, fun t d δ' hd hI => ?_, fun δ' hI => ?_⟩
  · obtain ⟨a', c', r', x3, x4, rfl, ha', hc0', hc1', hl', ho'⟩ := hI
    obtain ⟨ht, rfl⟩ := rngD_get hd
    obtain ⟨hp2, hlen⟩ := pow_step hl' (show t < 7 by omega)
    refine eg_name (of_decide_eq_true rfl) ?_
    walk_at "nrm"
    walk_at "go"
    have ll : ((r'.map Dt.str).length : Int) = r'.length := by rw [List.length_map]
    refine ⟨a', b, c', ((r'.map Dt.str).length : Int) + 1, rfl, ha', hb0, hb1, by omega, by omega, by omega, by omega, fun v a2 c2 v0 v1 ha2 hc2a hc2b => ⟨⟨rfl, trivial⟩, of_decide_eq_true rfl, ?_⟩⟩
    walk_at "nrm"
    walk_at "go"
    refine ap_slL rfl ?_
    walk_at "go"
    refine .inl ⟨a2, b, c2, pool.map .str, rfl, ha2, hb0, hb1, by omega, by omega, by rw [List.length_map]; exact hp0, by rw [List.length_map]; omega, fun i e a3 c3 he ha3 hc3a hc3b => ⟨⟨rfl, trivial⟩, ?_⟩⟩
    walk_at "nrm"
    obtain ⟨z, hz, rfl⟩ := get_map he
    walk_at "go"
    refine ⟨a3, b, c3, 2, rfl, ha3, hb0, hb1, by omega, by omega, by decide, by decide, fun k a4 c4 k0 k1 ha4 hc4a hc4b => ⟨⟨rfl, trivial⟩, ?_⟩⟩
    walk_at "nrm"
    refine ap_mulL (xs := [.str z]) rfl (by omega) (Nat.le_trans (show _ ≤ 1 by simp only [List.length_cons, List.length_nil]; omega) (by decide)) ?_
    rw [flat1]
    have s1 := cut_le (xs := r'.map Dt.str) (lo := none) (hi := some v)
    rw [List.length_map] at s1
    refine ap_addL rfl rfl (Nat.le_trans (show _ ≤ 6000 by rw [List.length_replicate]; omega) (by decide)) ?_
    walk_at "go"
    refine ⟨a4, b, c4, 2, rfl, ha4, hb0, hb1, by omega, by omega, by decide, by decide, fun j a5 c5 j0 j1 ha5 hc5a hc5b => ⟨⟨rfl, trivial⟩, ?_⟩⟩
    walk_at "nrm"
    walk_at "go"
    refine ap_slL rfl ?_
    have s2 := cut_le (xs := r'.map Dt.str) (lo := some (v + j)) (hi := none)
    rw [List.length_map] at s2
    refine ap_addL rfl rfl (Nat.le_trans (show _ ≤ 12000 by rw [List.length_append, List.length_replicate]; omega) (by decide)) ?_
    refine ⟨of_decide_eq_true rfl, ?_⟩
    walk_at "nrm"
    obtain ⟨l1, e1, m1⟩ := cutD_map (g := Dt.str) (l := r') (lo := none) (hi := some v)
    obtain ⟨l2, e2, m2⟩ := cutD_map (g := Dt.str) (l := r') (lo := some (v + j)) (hi := none)
    rw [e1, List.length_map] at s1
    rw [e2, List.length_map] at s2
    have hzm : z ∈ pool := List.mem_of_getElem? hz
    rw [e1, e2, show l1.map Dt.str ++ List.replicate k.toNat (Dt.str z) ++ l2.map Dt.str = (l1 ++ List.replicate k.toNat z ++ l2).map Dt.str by rw [List.map_append, List.map_append, List.map_replicate]]
    refine ⟨a5, c5, l1 ++ List.replicate k.toNat z ++ l2, _, _, rfl, ha5, by omega, by omega, ?_, fun x hx => ?_⟩
    · rw [List.length_append, List.length_append, List.length_replicate]; omega
    · rcases List.mem_append.mp hx with y | y
      · rcases List.mem_append.mp y with y | y
        · exact ho' x (m1 x y)
        · rw [List.eq_of_mem_replicate y]; exact hpo z hzm
      · exact ho' x (m2 x y)
  · obtain ⟨a', c', r', x3, x4, rfl, ha', hc0', hc1', hl', ho'⟩ := hI
    rw [rngD_len] at hc1' hl'
    walk_at "go"
    refine ap_slL rfl ?_
    walk_at "go"
    have s1 := cut40 (xs := r'.map Dt.str)
    obtain ⟨l1, e1, m1⟩ := cutD_map (g := Dt.str) (l := r') (lo := none) (hi := some 40)
    rw [e1, List.length_map] at s1
    rw [e1]
    exact ⟨_, rfl, h l1 a' c' ⟨s1, fun x hx => ho' x (m1 x hx)⟩ ha' hc0' (by omega)⟩
end
end Ek

namespace Ek
open PySem PySem.Spec PyProof.Rows L2
/-! ### what the merge tells may be shown -/
def okCl (c : Cl) : Prop := okC c ∧ c.1 ≤ 1000 ∧ c.2.1 ≤ 1000 ∧ c.2.2.1.length ≤ 40 ∧ c.2.2.2.length ≤ 40
theorem allT_fst {base one other : List Str} {q : Tri} (h : q ∈ allT base one other) : q.1 ≤ base.length := by
  rcases List.mem_append.mp h with z | z
  · obtain ⟨p, hp, e⟩ := List.mem_filterMap.mp z
    have := List.mem_range.mp hp
    unfold stb at e
    split at e
    · cases e; exact Nat.le_of_lt this
    · cases e
  · rw [List.mem_singleton.mp z]; exact Nat.le_refl _
theorem sl_le {xs : List Str} {a b : Nat} : (sl xs a b).length ≤ xs.length := by
  unfold sl
  simp only [List.length_take, List.length_drop]
  omega
theorem fold_cl {base one other : List Str} (h0 : okR base) (h1 : okR one) (h2 : okR other) : ∀ (qs : List Tri) (s : MSt), (∀ q ∈ qs, q.1 ≤ 1000) → s.2.2.1 ≤ 1000 → (∀ q ∈ qs, q.1 + 1 ≤ 1000) → (∀ c ∈ s.2.1, okCl c) → ∀ c ∈ (qs.foldl (stepM base one other) s).2.1, okCl c
  | [], s, _, _, _, hc => hc
  | q :: qs, s, hq, hs, hq1, hc => by
    rw [List.foldl_cons]
    refine fold_cl h0 h1 h2 qs _ (fun x hx => hq x (List.mem_cons_of_mem _ hx)) (hq1 q (List.mem_cons_self ..)) (fun x hx => hq1 x (List.mem_cons_of_mem _ hx)) fun c hcm => ?_
    unfold stepM at hcm
    dsimp only at hcm
    split at hcm
    · exact hc c hcm
    · rcases List.mem_append.mp hcm with z | z
      · exact hc c z
      · rw [List.mem_singleton.mp z]
        exact ⟨⟨fun x hx => h1.2 x (sl_mem hx), fun x hx => h2.2 x (sl_mem hx)⟩, hs, hq q (List.mem_cons_self ..), Nat.le_trans sl_le h1.1, Nat.le_trans sl_le h2.1⟩
theorem allT_len41 {base one other : List Str} : (allT base one other).length ≤ base.length + 1 := by
  unfold allT stab
  rw [List.length_append, List.length_singleton]
  have := List.length_filterMap_le (stb base one other) (List.range base.length)
  rw [List.length_range] at this
  omega
structure GM (s : MSt) : Prop where
  row : ∀ z ∈ s.1, okT 100 z
  rlen : s.1.length ≤ 3400
  cls : ∀ c ∈ s.2.1, okCl c
  clen : s.2.1.length ≤ 41
theorem gm_mrg {base one other : List Str} (h0 : okR base) (h1 : okR one) (h2 : okR other) : GM (mrg base one other) := by
  obtain ⟨⟨a, _⟩, b, c⟩ := stM_ok h0 h1 h2 (allT base one other).length
  rw [← mrg_stM] at a b c
  have l := allT_len41 (base := base) (one := one) (other := other)
  have n := h0.1
  refine ⟨a, by omega, ?_, by omega⟩
  unfold mrg
  exact fold_cl h0 h1 h2 _ _ (fun q hq => by have := allT_fst hq; omega) (Nat.zero_le _) (fun q hq => by have := allT_fst hq; omega) fun c hc => by cases hc
def resP (s : MSt) : PyData := if s.2.1 = [] then .tuple [.str "merged", rowP s.1] else .tuple [.str "clash", .tuple (s.2.1.map clP)]
theorem py_res (s : MSt) : (resD s).py = some (resP s) := by
  unfold resD resP
  split
  · simp only [Dt.py, Dt.pyAll, py_row, pyAll_str, Option.map_some]
  · simp only [Dt.py, Dt.pyAll, pyAll_cl, Option.map_some]
theorem shw_res {s : MSt} (g : GM s) : Shw (resP s) := by
  unfold resP
  split
  · refine shw_of (SH.tup fun x hx => ?_) ?_ ?_
    · rcases List.mem_cons.mp hx with z | z
      · rw [z]; exact SH.str (by decide +kernel)
      · rw [show x = _ from by simpa using z]; exact SH.row g.row
    · simp only [PyData.depth, PyData.depthAll, depth_str]; decide
    · have a := weight_row g.row
      have s1 : PyData.weight (.str "merged") ≤ 10 := by decide +kernel
      have : s.1.length * 101 ≤ 3400 * 101 := Nat.mul_le_mul_right _ g.rlen
      simp only [PyData.weight, PyData.weightAll] at a s1 ⊢
      omega
  · have each : ∀ c ∈ s.2.1, SH (clP c) ∧ PyData.weight (clP c) ≤ 9000 := fun c hc => by
      obtain ⟨⟨o1, o2⟩, p1, p2, l1, l2⟩ := g.cls c hc
      refine ⟨SH.tup fun x hx => ?_, ?_⟩
      · rcases List.mem_cons.mp hx with z | z
        · rw [z]; exact SH.int p1
        rcases List.mem_cons.mp z with z | z
        · rw [z]; exact SH.int p2
        rcases List.mem_cons.mp z with z | z
        · rw [z]; exact SH.row o1
        · rw [show x = _ from by simpa using z]; exact SH.row o2
      · have a := weight_int p1
        have b := weight_int p2
        have w1 := weight_row o1
        have w2 := weight_row o2
        have w3 : c.2.2.1.length * 101 ≤ 40 * 101 := Nat.mul_le_mul_right _ l1
        have w4 : c.2.2.2.length * 101 ≤ 40 * 101 := Nat.mul_le_mul_right _ l2
        simp only [clP, PyData.weight, PyData.weightAll] at a b w1 w2 ⊢
        omega
    refine shw_of (SH.tup fun x hx => ?_) ?_ ?_
    · rcases List.mem_cons.mp hx with z | z
      · rw [z]; exact SH.str (by decide +kernel)
      · rw [show x = _ from by simpa using z]
        refine SH.tup fun y hy => ?_
        obtain ⟨c, hc, rfl⟩ := List.mem_map.mp hy
        exact (each c hc).1
    · have := depthAll_cl s.2.1
      simp only [PyData.depth, PyData.depthAll]
      omega
    · have := weight_all (w := 9000) (xs := s.2.1.map clP) fun x hx => by
        obtain ⟨q, hq, rfl⟩ := List.mem_map.mp hx
        exact (each q hq).2
      rw [List.length_map] at this
      have s1 : PyData.weight (.str "clash") ≤ 10 := by decide +kernel
      have : s.2.1.length * (9000 + 1) ≤ 41 * 9001 := Nat.mul_le_mul_right _ g.clen
      simp only [PyData.weight, PyData.weightAll] at s1 ⊢
      omega
end Ek

namespace Ek
open PySem PySem.Spec PyProof.Rows L2 StX
local macro_rules
  | `(tactic| walk_at "nrm") => `(tactic| dsimp only [asgS, bks2, bk1, List.set_cons_zero, List.set_cons_succ, List.set_nil, wipeS, Sl.put, List.getElem?_cons_zero, List.getElem?_cons_succ, List.getElem?_nil, Option.getD_some, Option.getD_none, reduceIte, Nat.reduceEqDiff, List.map_nil, List.map_cons, List.nil_append, List.cons_append, List.replicate])
local macro_rules
  | `(tactic| walk_at "go1") => `(tactic| first
    | with_reducible refine es_seq ?_
    | with_reducible refine es_ret ?_
    | with_reducible refine es_retN ?_
    | with_reducible refine es_drop ?_
    | with_reducible refine es_asg ?_
    | with_reducible refine es_next ?_
    | with_reducible refine es_brk ?_
    | with_reducible refine es_cont ?_
    | with_reducible refine es_if ?_
    | with_reducible refine es_par ?_
    | with_reducible refine es_par3 ?_
    | with_reducible refine ev_op ?_
    | with_reducible refine ev_cb ?_
    | with_reducible refine ev_sl ?_
    | with_reducible refine eo_no ?_
    | with_reducible refine eo_pt ?_
    | with_reducible refine ea_cons ?_
    | with_reducible refine ea_nil ?_
    | with_reducible refine ea_star ?_
    | with_reducible refine ev_tup ?_
    | with_reducible refine ev_lst ?_
    | ((with_reducible refine ev_c (d := ?_) ?_ ?_); rotate_left; · rfl)
    | ((with_reducible refine ev_im (d := ?_) ?_ ?_); rotate_left; · rfl)
    | ((with_reducible refine ev_bo (s := ?_) ?_ ?_ ?_); rotate_left; (· rfl); (· rfl))
    | with_reducible refine ev_andV ?_
    | with_reducible refine ev_orV ?_
    | with_reducible refine ev_notV ?_
    | with_reducible refine ev_if ?_
    | with_reducible refine ev_neg ?_
    | with_reducible refine ev_isN ?_
    | with_reducible refine ev_notN ?_
    | with_reducible refine ev_cal2 ?_
    | refine Exists.intro _ (And.intro (a := Ags _ _ _ = some _) rfl (And.intro (a := ndB _ = true) rfl ?_))
    | with_reducible refine ev_chainI (fun _ _ => rfl) ?_
    | with_reducible refine et_test ?_
    | with_reducible refine et_val ?_
    | with_reducible refine et_and ?_
    | with_reducible refine et_or ?_
    | with_reducible refine et_not ?_
    | with_reducible refine ap_addI ?_
    | with_reducible refine ap_sub ?_
    | with_reducible refine ap_lt ?_
    | with_reducible refine ap_le ?_
    | with_reducible refine ap_gt ?_
    | with_reducible refine ap_ge ?_
    | with_reducible refine ap_eqI ?_
    | with_reducible refine ap_neI ?_
    | with_reducible refine ap_eqS ?_
    | with_reducible refine ap_neS ?_
    | with_reducible refine ap_max ?_
    | with_reducible refine ap_max3 ?_
    | with_reducible refine ap_min ?_
    | with_reducible refine ap_abs ?_
    | with_reducible refine ap_int ?_
    | with_reducible refine ap_intB ?_
    | ((with_reducible refine ap_len (ds := ?_) ?_ ?_); rotate_left; · rfl)
    | with_reducible refine ap_slT ?_
    | with_reducible refine ap_addT ?_ ?_
    | with_reducible refine ap_inS ?_
    | with_reducible refine ap_tupT ?_
    | ((with_reducible refine ap_tupL (ds := ?_) ?_ ?_); rotate_left; · rfl)
    | ((with_reducible refine ap_list (ds := ?_) ?_ ?_); rotate_left; · rfl)
    | refine ap_isi (b := true) rfl rfl (by decide +kernel) ?_
    | refine ap_isi (b := false) rfl rfl (by decide +kernel) ?_
    | with_reducible refine et_yes ?_
    | refine And.intro (a := List.length _ ≤ sizeLine) (of_decide_eq_true rfl) ?_
    | refine ap_ixO (i := 0) rfl rfl ?_
    | refine ap_ixO (i := 1) rfl rfl ?_
    | refine ap_ixO (i := 2) rfl rfl ?_
    | refine ap_ixO (i := 0) rfl (atI_nat (j := 0) rfl) ?_
    | with_reducible refine ei_any ?_
    | with_reducible refine ei_rng1 ?_
    | with_reducible refine ei_rng2 ?_
    | with_reducible refine ei_rng3 ?_
    | with_reducible refine ei_enumT ?_
    | with_reducible refine ⟨fun _ => ?_, fun (e : true = false) => nomatch e⟩
    | refine ⟨fun (e : (!true) = true) => Bool.noConfusion (show false = true from e), fun _ => ?_⟩
    | refine ⟨fun _ => ?_, fun (e : (!false) = false) => Bool.noConfusion (show true = false from e)⟩
    | with_reducible refine ⟨fun (e : false = true) => nomatch e, fun _ => ?_⟩
    | (with_reducible refine ⟨_, rfl, ?_⟩))
local macro_rules
  | `(tactic| walk_at "go") => `(tactic| repeat walk_at "go1")

/-- what is glued of single signs -/
def sgl (ys : List Str) : Prop := ∀ y ∈ ys, ∃ c, y = ⟨#[c]⟩ ∧ c ∈ sgn
theorem sgl_sum : ∀ {ys : List Str}, sgl ys → (ys.map (·.length)).sum = ys.length
  | [], _ => rfl
  | y :: ys, h => by
    obtain ⟨c, rfl, _⟩ := h y (List.mem_cons_self ..)
    rw [List.map_cons, List.sum_cons, sgl_sum fun z hz => h z (List.mem_cons_of_mem _ hz), List.length_cons]
    show 1 + _ = _
    omega
theorem fold_mem : ∀ (r : List Str) (acc : Array Nat), (∀ c ∈ acc.toList, c ∈ sgn) → sgl r → ∀ c ∈ (r.foldl (fun acc p => acc ++ ("" : Str).cps ++ p.cps) acc).toList, c ∈ sgn
  | [], acc, h, _, c, hc => h c hc
  | y :: r, acc, h, h2, c, hc => by
    refine fold_mem r _ (fun d hd => ?_) (fun z hz => h2 z (List.mem_cons_of_mem _ hz)) c hc
    obtain ⟨e, rfl, he⟩ := h2 y (List.mem_cons_self ..)
    rw [Array.toList_append, Array.toList_append] at hd
    rcases List.mem_append.mp hd with z | z
    · rcases List.mem_append.mp z with z | z
      · exact h d z
      · cases z
    · rw [show d = e by simpa using z]; exact he
theorem join_ok {ys : List Str} (h : sgl ys) (hl : ys.length ≤ 100) : okT 100 (Txt.join "" ys) := by
  constructor
  · have a := StrLaws.join_length_le "" ys
    have e : Txt.join "" ys = Str.join "" ys := StrLaws.glued_eq_join "" ys
    rw [e]
    rw [sgl_sum h] at a
    have z : ("" : Str).length = 0 := rfl
    rw [z] at a
    omega
  · cases ys with
    | nil => intro c hc; cases hc
    | cons y r =>
      intro c hc
      refine fold_mem r y.cps (fun d hd => ?_) (fun z hz => h z (List.mem_cons_of_mem _ hz)) c hc
      obtain ⟨e, rfl, he⟩ := h y (List.mem_cons_self ..)
      rw [show d = e by simpa using hd]; exact he
theorem sgl_snoc {ys : List Str} {c : Nat} (h : sgl ys) (hc : c ∈ sgn) : sgl (ys ++ [⟨#[c]⟩]) := fun y hy => by
  rcases List.mem_append.mp hy with z | z
  · exact h y z
  · exact ⟨c, List.mem_singleton.mp z, hc⟩
theorem pick5 {i : Nat} {d : Dt} (h : [Dt.int 0, .int 1, .int 2, .int 9, .int 100][i]? = some d) : ∃ n : Nat, d = .int n ∧ n ≤ 100 := by
  match i, h with
  | 0, h => cases h; exact ⟨0, rfl, by decide⟩
  | 1, h => cases h; exact ⟨1, rfl, by decide⟩
  | 2, h => cases h; exact ⟨2, rfl, by decide⟩
  | 3, h => cases h; exact ⟨9, rfl, by decide⟩
  | 4, h => cases h; exact ⟨100, rfl, by decide⟩
  | i + 5, h => simp at h
theorem pick4 {i : Nat} {d : Dt} (h : [Dt.int 3, .int 12, .int 25, .int 40][i]? = some d) : ∃ n : Nat, d = .int n ∧ n ≤ 40 := by
  match i, h with
  | 0, h => cases h; exact ⟨3, rfl, by decide⟩
  | 1, h => cases h; exact ⟨12, rfl, by decide⟩
  | 2, h => cases h; exact ⟨25, rfl, by decide⟩
  | 3, h => cases h; exact ⟨40, rfl, by decide⟩
  | i + 4, h => simp at h
section
variable {P : Program} {w : World} {K : PySem.W.Frag} {mg : Str → Option Value} {base : Heap}
def A__law_right : Pr := fun δa q => ∃ (a b : Int), δa = [.ln 0 (potD a b 0)] ∧ 0 ≤ a ∧ 0 ≤ b ∧ b < 2305843009213693952 ∧
  ∀ a' c', q (.im (.bl true)) [.ln 0 (potD a' b c')]
set_option maxHeartbeats 4000000 in
theorem ok__law_right (T : Tx mg) (c__law_bent : CalR P w K mg base CX0 3 "_law_bent" (FD K A__law_bent)) (c__law_is_pair_right : CalR P w K mg base CX0 5 "_law_is_pair_right" (FD K A__law_is_pair_right)) (c__law_merged : CalR P w K mg base CX0 3 "_law_merged" (FD K A__law_merged)) (c__law_of : CalR P w K mg base CX0 2 "_law_of" (FD K A__law_of)) (c__law_signs : CalR P w K mg base CX0 1 "_law_signs" (FD K A__law_signs)) (c__law_take : CalR P w K mg base CX0 1 "_law_take" (FD K A__law_take)) (c_merged : CalR P w K mg base CX0 5 "merged" (FD K A_merged)) {f : Addr} {fd : FuncData} (F : Fn K "_law_right" s__law_right f fd) (hm : mg "_law_right" = some (.ref f)) (hb : Binds K fd ["pot"] []) : CalR P w K mg base CX0 6 "_law_right" (FD K A__law_right) := by
  refine cal_fd 1 [] F hm sc__law_right hb .nil rfl rfl (fun δa q hA => by simp only [A__law_right] at hA; (repeat obtain ⟨_, hA⟩ := hA); simp only [*, List.length_cons, List.length_nil]) fun cdv Ar outer s H E hG hr => ?_
  have hu : (Ar.deeper (envOfC "_law_right" (defScope s__law_right) s.heap.objs.size f cdv)).units + 65 < cLine := by have := hr.un; omega
  refine ⟨_, (pss_cons (ps_set (i := 1) sc__law_right.nd rfl (Or.inr rfl) (pe_lst pa_nil)) (pss_cons (ps_for PassesOwn.never rfl (pi_range1 rfl T.z_range (pa_cons (pe_op (k_add (K := K) rfl) pe_int (pe_cal c__law_take hG (hr.mono (by decide)) pass0 (pa_cons (pv 0) (pa_cons pe_int pa_nil)))) pa_nil)) (pg_name (i := 2) sc__law_right.nd rfl (Or.inl rfl)) (pss_one (ps_expr (k_bm (K := K) rfl PySem.F.plainAttrs_list PySem.F.slot_list_append PySem.F.type_list_append mt_append (pv 1) (pa_cons (k_join (K := K) rfl pe_str (pe_lc (own := [("turn", 11)]) rfl sc__law_right.nd (pi_range1 rfl T.z_range (pa_cons (pe_cal c__law_of hG (hr.mono (by decide)) pass0 (pa_cons (pv 0) (pa_cons (pe_lst (pa_cons pe_int (pa_cons pe_int (pa_cons pe_int (pa_cons pe_int (pa_cons pe_int pa_nil)))))) pa_nil))) pa_nil)) (blkOk_by (N := ["pot", "pool", "lap", "base", "rows", "free", "one", "other", "due", "told", "turned", "turn", "begin", "end", "first", "last"]) (sc := defScope s__law_right) (by decide +kernel)) (fun _ _ _ _ _ => (pg_name (i := 11) sc__law_right.nd rfl (Or.inl rfl))) (fun _ _ _ _ _ => pts_nil) (fun _ _ _ _ _ => (pe_cal c__law_of hG (hr.mono (by decide)) pass0 (pa_cons (pv 0) (pa_cons (pe_cal0 c__law_signs hG (hr.mono (by decide)) pass0) pa_nil)))))) pa_nil))))) (pss_cons (ps_set (i := 3) sc__law_right.nd rfl (Or.inl rfl) (pe_callTy (k_tup (K := K) rfl) (by rfl) T.z_tuple (by decide +kernel) (pa_cons (pe_lc (own := [("lap", 2)]) rfl sc__law_right.nd (pi_range1 rfl T.z_range (pa_cons (pe_cal c__law_of hG (hr.mono (by decide)) pass0 (pa_cons (pv 0) (pa_cons (pe_lst (pa_cons pe_int (pa_cons pe_int (pa_cons pe_int (pa_cons pe_int pa_nil))))) pa_nil))) pa_nil)) (blkOk_by (N := ["pot", "pool", "lap", "base", "rows", "free", "one", "other", "due", "told", "turned", "turn", "begin", "end", "first", "last"]) (sc := defScope s__law_right) (by decide +kernel)) (fun _ _ _ _ _ => (pg_name (i := 2) sc__law_right.nd rfl (Or.inl rfl))) (fun _ _ _ _ _ => pts_nil) (fun _ _ _ _ _ => (pe_cal c__law_of hG (hr.mono (by decide)) pass0 (pa_cons (pv 0) (pa_cons (pv 1) pa_nil))))) pa_nil))) (pss_cons (ps_set (i := 4) sc__law_right.nd rfl (Or.inl rfl) (pe_lst pa_nil)) (pss_cons (ps_for PassesOwn.never rfl (pi_range1 rfl T.z_range (pa_cons pe_int pa_nil)) (pg_name (i := 2) sc__law_right.nd rfl (Or.inl rfl)) (pss_cons (ps_set (i := 5) sc__law_right.nd rfl (Or.inl rfl) (pe_callTy (k_tup (K := K) rfl) (by rfl) T.z_tuple (by decide +kernel) (pa_cons (pe_lc (own := [("turn", 11)]) rfl sc__law_right.nd (pi_range1 rfl T.z_range (pa_cons (pe_cal c__law_take hG (hr.mono (by decide)) pass0 (pa_cons (pv 0) (pa_cons pe_int pa_nil))) pa_nil)) (blkOk_by (N := ["pot", "pool", "lap", "base", "rows", "free", "one", "other", "due", "told", "turned", "turn", "begin", "end", "first", "last"]) (sc := defScope s__law_right) (by decide +kernel)) (fun _ _ _ _ _ => (pg_name (i := 11) sc__law_right.nd rfl (Or.inl rfl))) (fun _ _ _ _ _ => pts_nil) (fun _ _ _ _ _ => (pe_cal c__law_of hG (hr.mono (by decide)) pass0 (pa_cons (pv 0) (pa_cons (pv 1) pa_nil))))) pa_nil))) (pss_one (ps_expr (k_bm (K := K) rfl PySem.F.plainAttrs_list PySem.F.slot_list_append PySem.F.type_list_append mt_append (pv 4) (pa_cons (pe_ifExp (pt_cmpR (k_eq (K := K) rfl hu) (pe_cal c__law_take hG (hr.mono (by decide)) pass0 (pa_cons (pv 0) (pa_cons pe_int pa_nil))) pe_int (nomark _)) (pv 5) (pe_cal c__law_bent hG (hr.mono (by decide)) pass0 (pa_cons (pv 0) (pa_cons (pv 3) (pa_cons (pv 1) pa_nil))))) pa_nil)))))) (pss_cons (ps_asg (pv 4) (k_gsq (K := K) rfl (n := 2) rfl (pgs_cons (pg_name (i := 6) sc__law_right.nd rfl (Or.inl rfl)) (pgs_cons (pg_name (i := 7) sc__law_right.nd rfl (Or.inl rfl)) pgs_nil)))) (pss_cons (ps_if (PW.pt (pw_or (pt_not (pt_val (pe_cal c__law_is_pair_right hG (hr.mono (by decide)) pass0 (pa_cons (pv 3) (pa_cons (pv 6) pa_nil))))) (pw_or1 (pt_not (pt_val (pe_cal c__law_is_pair_right hG (hr.mono (by decide)) pass0 (pa_cons (pv 6) (pa_cons (pv 7) pa_nil)))))))) (pss_one (ps_ret pe_bl)) pss_nil) (pss_cons (ps_set (i := 8) sc__law_right.nd rfl (Or.inl rfl) (pe_cal c__law_merged hG (hr.mono (by decide)) pass0 (pa_cons (pv 3) (pa_cons (pv 6) (pa_cons (pv 7) pa_nil))))) (pss_cons (ps_par (i := 9) (j := 10) rfl sc__law_right.nd rfl rfl (by decide) rfl rfl (pa_cons (pe_cal c_merged hG (hr.mono (by decide)) pass0 (pa_cons (pv 3) (pa_cons (pv 6) (pa_cons (pv 7) pa_nil)))) (pa_cons (pe_cal c_merged hG (hr.mono (by decide)) pass0 (pa_cons (pv 3) (pa_cons (pv 7) (pa_cons (pv 6) pa_nil)))) pa_nil)) rfl) (pss_cons (ps_if (pt_cmpR (k_ne (K := K) rfl hu) (pe_callB (k_repr (K := K) rfl hG hu) (by rfl) T.z_repr (by decide +kernel) (pa_cons (pv 9) pa_nil)) (pe_callB (k_repr (K := K) rfl hG hu) (by rfl) T.z_repr (by decide +kernel) (pa_cons (pv 8) pa_nil)) (nomark _)) (pss_one (ps_ret pe_bl)) pss_nil) (pss_cons (ps_if (pt_cmpR (k_eq (K := K) rfl hu) (pe_ix (k_ix (K := K) rfl hu) (pv 8) pe_int (fun _ _ => rfl)) pe_str (nomark _)) (pss_one (ps_set (i := 8) sc__law_right.nd rfl (Or.inl rfl) (pe_tup (pa_cons pe_str (pa_cons (pe_callTy (k_tup (K := K) rfl) (by rfl) T.z_tuple (by decide +kernel) (pa_cons (pe_lc (own := [("begin", 12), ("end", 13), ("first", 14), ("last", 15)]) rfl sc__law_right.nd (k_iany (K := K) rfl (pe_ix (k_ix (K := K) rfl hu) (pv 8) pe_int (fun _ _ => rfl))) (blkOk_by (N := ["pot", "pool", "lap", "base", "rows", "free", "one", "other", "due", "told", "turned", "turn", "begin", "end", "first", "last"]) (sc := defScope s__law_right) (by decide +kernel)) (fun _ _ _ _ _ => (k_gsq (K := K) rfl (n := 4) rfl (pgs_cons (pg_name (i := 12) sc__law_right.nd rfl (Or.inl rfl)) (pgs_cons (pg_name (i := 13) sc__law_right.nd rfl (Or.inl rfl)) (pgs_cons (pg_name (i := 14) sc__law_right.nd rfl (Or.inl rfl)) (pgs_cons (pg_name (i := 15) sc__law_right.nd rfl (Or.inl rfl)) pgs_nil)))))) (fun _ _ _ _ _ => pts_nil) (fun _ _ _ _ _ => (pe_tup (pa_cons (pv 12) (pa_cons (pv 13) (pa_cons (pv 15) (pa_cons (pv 14) pa_nil))))))) pa_nil)) pa_nil))))) pss_nil) (pss_one (ps_ret (pe_cmpR (k_eq (K := K) rfl hu) (pe_callB (k_repr (K := K) rfl hG hu) (by rfl) T.z_repr (by decide +kernel) (pa_cons (pv 10) pa_nil)) (pe_callB (k_repr (K := K) rfl hG hu) (by rfl) T.z_repr (by decide +kernel) (pa_cons (pv 8) pa_nil)) (nomark _))))))))))))))), fun δa q hA => ?_⟩
  obtain ⟨a, b, rfl, ha, hb0, hb1, h⟩ := hA
  change Es K _ [_, Sl.un, Sl.un, Sl.un, Sl.un, Sl.un, Sl.un, Sl.un, Sl.un, Sl.un, Sl.un, Sl.un, Sl.un, Sl.un, Sl.un, Sl.un] _
  walk_at "go"
  refine ⟨of_decide_eq_true rfl, ?_⟩
  walk_at "nrm"
  refine es_seq (es_for ?_)
  walk_at "go"
  refine ⟨a, b, 0, 4, rfl, ha, hb0, hb1, by decide, by decide, by decide, by decide, fun u a1 c1 u0 u1 ha1 hc1a hc1b => ⟨⟨rfl, trivial⟩, ?_⟩⟩
  walk_at "nrm"
  walk_at "go"
  refine ⟨by omega, by omega, ?_⟩
  refine ⟨fun t δ => ∃ (a' c' : Int) (pl : List Str) (x2 : Sl), δ = [.ln 0 (potD a' b c'), .ls (pl.map .str), x2, .un, .un, .un, .un, .un, .un, .un, .un, .un, .un, .un, .un, .un] ∧ 0 ≤ a' ∧ 0 ≤ c' ∧ c' ≤ 1 + 101 * t ∧ pl.length = t ∧ ∀ z ∈ pl, okT 100 z, [2],
    ⟨a1, c1, [], _, rfl, ha1, by omega, by omega, rfl, fun z hz => by cases hz⟩, fun t d δ' hd hI => ?_, fun δ' hI => ?_⟩
  · obtain ⟨a', c', pl, x2, rfl, ha', hc0', hc1', hl', ho'⟩ := hI
    obtain ⟨ht, rfl⟩ := rngD_get hd
    refine eg_name (of_decide_eq_true rfl) ?_
    walk_at "nrm"
    refine es_drop (ev_bm (i := 1) rfl rfl ?_)
    walk_at "go"
    refine ev_join (sep := "") rfl ?_
    walk_at "go"
    refine ⟨rfl, ?_⟩
    refine ev_lc ?_
    walk_at "go"
    refine .inl ⟨a', b, c', [.int 0, .int 1, .int 2, .int 9, .int 100], rfl, ha', hb0, hb1, by omega, by omega, by decide, by decide, fun i d a2 c2 he ha2 hc2a hc2b => ⟨⟨rfl, trivial⟩, ?_⟩⟩
    walk_at "nrm"
    obtain ⟨n, rfl, hn⟩ := pick5 he
    walk_at "go"
    refine ⟨by omega, by omega, ?_⟩
    refine ⟨fun i acc δ => ∃ (a3 c3 : Int) (ys : List Str), δ = [.ln 0 (potD a3 b c3), .ls (pl.map .str), .im (.int (0 + (t : Int) * 1)), .un, .un, .un, .un, .un, .un, .un, .un, .un, .un, .un, .un, .un] ∧ acc = ys.map .str ∧ ys.length = i ∧ sgl ys ∧ 0 ≤ a3 ∧ c2 ≤ c3 ∧ c3 ≤ c2 + i,
      [11], by decide, fun j hj => by rw [show j = 11 by simpa using hj]; rfl, ⟨a2, c2, [], rfl, rfl, rfl, (fun y hy => by cases hy), ha2, by omega, by omega⟩, fun i d acc δ' hd2 hI2 => ?_, fun acc δ' hI2 _ => ?_⟩
    · obtain ⟨a3, c3, ys, rfl, rfl, hys, hy, ha3, hc3a, hc3b⟩ := hI2
      obtain ⟨hi, rfl⟩ := rngD_get hd2
      refine ⟨by rw [List.length_map]; exact Nat.lt_of_lt_of_le (show _ < 200 by omega) (by decide), ?_⟩
      refine eg_name (of_decide_eq_true rfl) ?_
      walk_at "nrm"
      walk_at "go"
      refine ⟨rfl, trivial, ?_⟩
      walk_at "nrm"
      walk_at "go"
      refine .inr ⟨a3, b, c3, "\n ,-.0123456789:;=abcdefghijklmnopqrstuvwxyz", rfl, ha3, hb0, hb1, by omega, by omega, by decide, by decide, fun ch a4 c4 hch ha4 hc4a hc4b => ⟨⟨rfl, trivial⟩, ?_⟩⟩
      walk_at "nrm"
      refine ⟨_, rfl, a4, c4, ys ++ [⟨#[ch]⟩], rfl, by rw [List.map_append]; rfl, by rw [List.length_append, hys]; rfl, sgl_snoc hy hch, ha4, by omega, by omega⟩
    · obtain ⟨a3, c3, ys, rfl, rfl, hys, hy, ha3, hc3a, hc3b⟩ := hI2
      rw [rngD_len] at hys hc3b
      have hs := sgl_sum hy
      refine ⟨ys, rfl, ?_, ?_⟩
      · rw [hs, show ("" : Str).length = 0 from rfl]; omega
      walk_at "go"
      refine mt_app rfl rfl rfl (Nat.lt_of_lt_of_le (show _ < 200 by rw [List.length_map]; omega) (by decide)) ?_
      walk_at "nrm"
      rw [show pl.map Dt.str ++ [Dt.str (Txt.join "" ys)] = (pl ++ [Txt.join "" ys]).map Dt.str by rw [List.map_append]; rfl]
      refine ⟨a3, c3, pl ++ [Txt.join "" ys], _, rfl, ha3, by omega, by omega, by rw [List.length_append, hl']; rfl, fun z hz => ?_⟩
      rcases List.mem_append.mp hz with y | y
      · exact ho' z y
      · rw [List.mem_singleton.mp y]; exact join_ok hy (by omega)
  · obtain ⟨a', c', pl, x2, rfl, ha', hc0', hc1', hl', ho'⟩ := hI
    rw [rngD_len] at hc1' hl'
    have hp0 : 0 < pl.length := by omega
    have hp1 : pl.length ≤ 5 := by omega
    refine es_frz 1 (d := .lst (pl.map .str)) rfl rfl ?_
    refine es_fgt 2 ?_
    walk_at "nrm"
    walk_at "go"
    refine ev_lc ?_
    walk_at "go"
    refine .inl ⟨a', b, c', [.int 3, .int 12, .int 25, .int 40], rfl, ha', hb0, hb1, by omega, by omega, by decide, by decide, fun i d a2 c2 he ha2 hc2a hc2b => ⟨⟨rfl, trivial⟩, ?_⟩⟩
    walk_at "nrm"
    obtain ⟨n, rfl, hn⟩ := pick4 he
    walk_at "go"
    refine ⟨by omega, by omega, ?_⟩
    refine ⟨fun i acc δ => ∃ (a3 c3 : Int) (ys : List Str), δ = [.ln 0 (potD a3 b c3), .im (.lst (pl.map .str)), .un, .un, .un, .un, .un, .un, .un, .un, .un, .un, .un, .un, .un, .un] ∧ acc = ys.map .str ∧ ys.length = i ∧ (∀ y ∈ ys, okT 100 y) ∧ 0 ≤ a3 ∧ c2 ≤ c3 ∧ c3 ≤ c2 + i,
      [2], by decide, fun j hj => by rw [show j = 2 by simpa using hj]; rfl, ⟨a2, c2, [], rfl, rfl, rfl, (fun y hy => by cases hy), ha2, by omega, by omega⟩, fun i d acc δ' hd2 hI2 => ?_, fun acc δ' hI2 _ => ?_⟩
    · obtain ⟨a3, c3, ys, rfl, rfl, hys, hy, ha3, hc3a, hc3b⟩ := hI2
      obtain ⟨hi, rfl⟩ := rngD_get hd2
      refine ⟨by rw [List.length_map]; exact Nat.lt_of_lt_of_le (show _ < 200 by omega) (by decide), ?_⟩
      refine eg_name (of_decide_eq_true rfl) ?_
      walk_at "nrm"
      walk_at "go"
      refine .inl ⟨a3, b, c3, pl.map .str, rfl, ha3, hb0, hb1, by omega, by omega, by rw [List.length_map]; exact hp0, by rw [List.length_map]; omega, fun k e a4 c4 he2 ha4 hc4a hc4b => ⟨⟨rfl, trivial⟩, ?_⟩⟩
      walk_at "nrm"
      obtain ⟨z, hz, rfl⟩ := get_map he2
      refine ⟨_, rfl, a4, c4, ys ++ [z], rfl, by rw [List.map_append]; rfl, by rw [List.length_append, hys]; rfl, fun y hm => ?_, ha4, by omega, by omega⟩
      rcases List.mem_append.mp hm with y2 | y2
      · exact hy y y2
      · rw [List.mem_singleton.mp y2]; exact ho' z (List.mem_of_getElem? hz)
    obtain ⟨a3, c3, bs, rfl, rfl, hys, hbs, ha3, hc3a, hc3b⟩ := hI2
    rw [rngD_len] at hys hc3b
    have okb : okR bs := ⟨by omega, hbs⟩
    have hc30 : 0 ≤ c3 := by omega
    have hc3 : c3 ≤ 1000 := by omega
    clear hc3a hc3b hc2a hc2b hys
    walk_at "go"
    refine ⟨of_decide_eq_true rfl, ?_⟩
    walk_at "nrm"
    walk_at "go"
    refine ⟨of_decide_eq_true rfl, ?_⟩
    walk_at "nrm"
    refine es_seq (es_for ?_)
    walk_at "go"
    refine ⟨by omega, by omega, ?_⟩
    refine ⟨fun t δ => ∃ (a' c' : Int) (rows : List (List Str)) (x2 x5 : Sl), δ = [.ln 0 (potD a' b c'), .im (.lst (pl.map .str)), x2, .im (rowD bs), .ls (rows.map rowD), x5, .un, .un, .un, .un, .un, .un, .un, .un, .un, .un] ∧ 0 ≤ a' ∧ 0 ≤ c' ∧ c' ≤ 1000 + 1000 * t ∧ rows.length = t ∧ ∀ z ∈ rows, okR z, [2],
      ⟨a3, c3, [], _, _, rfl, ha3, hc30, by omega, rfl, fun z hz => by cases hz⟩, fun t d δ' hd hI => ?_, fun δ' hI => ?_⟩
    · obtain ⟨a', c', rows, x2, x5, rfl, ha', hc0', hc1', hl', hr'⟩ := hI
      obtain ⟨ht, rfl⟩ := rngD_get hd
      refine eg_name (of_decide_eq_true rfl) ?_
      walk_at "nrm"
      walk_at "go"
      refine ev_lc ?_
      walk_at "go"
      refine ⟨a', b, c', 41, rfl, ha', hb0, hb1, by omega, by omega, by decide, by decide, fun n a2 c2 n0 n1 ha2 hc2a hc2b => ⟨⟨rfl, trivial⟩, ?_⟩⟩
      walk_at "nrm"
      walk_at "go"
      refine ⟨by omega, by omega, ?_⟩
      refine ⟨fun i acc δ => ∃ (a3 c3 : Int) (ys : List Str), δ = [.ln 0 (potD a3 b c3), .im (.lst (pl.map .str)), .im (.int (0 + (t : Int) * 1)), .im (rowD bs), .ls (rows.map rowD), x5, .un, .un, .un, .un, .un, .un, .un, .un, .un, .un] ∧ acc = ys.map .str ∧ ys.length = i ∧ (∀ y ∈ ys, okT 100 y) ∧ 0 ≤ a3 ∧ c2 ≤ c3 ∧ c3 ≤ c2 + i,
        [11], by decide, fun j hj => by rw [show j = 11 by simpa using hj]; rfl, ⟨a2, c2, [], rfl, rfl, rfl, (fun y hy => by cases hy), ha2, by omega, by omega⟩, fun i d acc δ' hd2 hI2 => ?_, fun acc δ' hI2 _ => ?_⟩
      · obtain ⟨a3, c3, ys, rfl, rfl, hys, hy, ha3, hc3a, hc3b⟩ := hI2
        obtain ⟨hi, rfl⟩ := rngD_get hd2
        refine ⟨by rw [List.length_map]; exact Nat.lt_of_lt_of_le (show _ < 200 by omega) (by decide), ?_⟩
        refine eg_name (of_decide_eq_true rfl) ?_
        walk_at "nrm"
        walk_at "go"
        refine .inl ⟨a3, b, c3, pl.map .str, rfl, ha3, hb0, hb1, by omega, by omega, by rw [List.length_map]; exact hp0, by rw [List.length_map]; omega, fun k e a4 c4 he2 ha4 hc4a hc4b => ⟨⟨rfl, trivial⟩, ?_⟩⟩
        walk_at "nrm"
        obtain ⟨z, hz, rfl⟩ := get_map he2
        refine ⟨_, rfl, a4, c4, ys ++ [z], rfl, by rw [List.map_append]; rfl, by rw [List.length_append, hys]; rfl, fun y hm => ?_, ha4, by omega, by omega⟩
        rcases List.mem_append.mp hm with y2 | y2
        · exact hy y y2
        · rw [List.mem_singleton.mp y2]; exact ho' z (List.mem_of_getElem? hz)
      obtain ⟨a3, c3, ys, rfl, rfl, hys, hy, ha3, hc3a, hc3b⟩ := hI2
      rw [rngD_len] at hys hc3b
      have okf : okR ys := ⟨by omega, hy⟩
      walk_at "go"
      refine ⟨of_decide_eq_true rfl, ?_⟩
      walk_at "nrm"
      refine es_drop (ev_bm (i := 4) rfl rfl ?_)
      walk_at "go"
      refine ⟨a3, b, c3, 4, rfl, ha3, hb0, hb1, by omega, by omega, by decide, by decide, fun k a4 c4 k0 k1 ha4 hc4a hc4b => ⟨⟨rfl, trivial⟩, ?_⟩⟩
      walk_at "nrm"
      walk_at "go"
      refine ⟨fun e1 => ?_, fun e1 => ?_⟩
      · walk_at "go"
        refine mt_app rfl rfl rfl (Nat.lt_of_lt_of_le (show _ < 200 by rw [List.length_map]; omega) (by decide)) ?_
        walk_at "nrm"
        rw [show rows.map rowD ++ [rowD ys] = (rows ++ [ys]).map rowD by rw [List.map_append]; rfl]
        refine ⟨a4, c4, rows ++ [ys], _, _, rfl, ha4, by omega, by omega, by rw [List.length_append, hl']; rfl, fun z hz => ?_⟩
        rcases List.mem_append.mp hz with y | y
        · exact hr' z y
        · rw [List.mem_singleton.mp y]; exact okf
      · walk_at "go"
        refine ⟨a4, b, c4, bs, pl, rfl, ha4, hb0, hb1, by omega, by omega, okb, hp0, by omega, ho', fun r5 a5 c5 okr ha5 hc5a hc5b => ⟨⟨rfl, trivial⟩, ?_⟩⟩
        walk_at "nrm"
        walk_at "go"
        refine mt_app rfl rfl rfl (Nat.lt_of_lt_of_le (show _ < 200 by rw [List.length_map]; omega) (by decide)) ?_
        walk_at "nrm"
        rw [show rows.map rowD ++ [rowD r5] = (rows ++ [r5]).map rowD by rw [List.map_append]; rfl]
        refine ⟨a5, c5, rows ++ [r5], _, _, rfl, ha5, by omega, by omega, by rw [List.length_append, hl']; rfl, fun z hz => ?_⟩
        rcases List.mem_append.mp hz with y | y
        · exact hr' z y
        · rw [List.mem_singleton.mp y]; exact okr
    · obtain ⟨a', c', rows, x2, x5, rfl, ha', hc0', hc1', hl', hr'⟩ := hI
      rw [rngD_len] at hl'
      obtain ⟨one, other, rfl⟩ : ∃ one other, rows = [one, other] := by
        match rows, hl' with
        | [x, y], _ => exact ⟨x, y, rfl⟩
      have ok1 : okR one := hr' one (by simp)
      have ok2 : okR other := hr' other (by simp)
      refine es_frz 4 (d := .lst [rowD one, rowD other]) rfl rfl ?_
      walk_at "nrm"
      refine es_seq (es_asgG ?_)
      walk_at "go"
      refine ⟨_, [6, 7], rfl, eg_sqL rfl (egs_cons (eg_name (of_decide_eq_true rfl) (egs_cons (eg_name (of_decide_eq_true rfl) (egs_nil ?_)))) ) ⟩
      walk_at "nrm"
      walk_at "go"
      refine ⟨bs, one, rfl, okb, ok1, trivial, ?_⟩
      walk_at "nrm"
      walk_at "go"
      refine ⟨one, other, rfl, ok1, ok2, trivial, ?_⟩
      walk_at "nrm"
      walk_at "go"
      refine ⟨bs, one, other, rfl, okb, ok1, ok2, trivial, ?_⟩
      refine ⟨of_decide_eq_true rfl, ?_⟩
      walk_at "nrm"
      walk_at "go"
      refine ⟨bs, one, other, rfl, okb, ok1, ok2, trivial, ?_⟩
      walk_at "nrm"
      walk_at "go"
      refine ⟨bs, other, one, rfl, okb, ok2, ok1, trivial, ?_⟩
      walk_at "nrm"
      walk_at "go"
      refine ⟨_, _, rfl, of_decide_eq_true rfl, of_decide_eq_true rfl, ?_⟩
      walk_at "nrm"
      have g1 := gm_mrg okb ok1 ok2
      have g2 := gm_mrg okb ok2 ok1
      have sw := mrg_swap bs one other
      walk_at "go"
      refine ap_repr rfl (py_res _) (shw_res g1) ?_
      walk_at "go"
      refine ap_repr rfl (py_res _) (shw_res g1) ?_
      walk_at "go"
      rw [ne_self]
      walk_at "go"
      by_cases e : (mrg bs one other).2.1 = []
      · have e8 : resD (mrg bs one other) = .tup [.str "merged", rowD (mrg bs one other).1] := by unfold resD; rw [if_pos e]
        have e10 : resD (mrg bs other one) = .tup [.str "merged", rowD (mrg bs one other).1] := by unfold resD; rw [sw, e]; rfl
        have px := py_res (mrg bs one other)
        rw [e8] at px
        rw [e8, e10]
        walk_at "go"
        refine ap_repr rfl px (shw_res g1) ?_
        walk_at "go"
        refine ap_repr rfl px (shw_res g1) ?_
        walk_at "go"
        rw [show decide ((resP (mrg bs one other)).shown = (resP (mrg bs one other)).shown) = true by simp]
        exact ⟨_, rfl, h _ _⟩
      · have e8 : resD (mrg bs one other) = .tup [.str "clash", .tup ((mrg bs one other).2.1.map clD)] := by unfold resD; rw [if_neg e]
        have e10 : resD (mrg bs other one) = .tup [.str "clash", .tup ((mrg bs one other).2.1.map fun c => clD (swC c))] := by
          unfold resD
          rw [sw, if_neg (by simpa using e)]
          simp only [List.map_map]
          rfl
        have px := py_res (mrg bs other one)
        rw [e10] at px
        rw [e8, e10]
        walk_at "go"
        refine ev_lcN ?_
        walk_at "go"
        have ll := g1.clen
        refine ⟨[12, 13, 14, 15], fun i => ((mrg bs one other).2.1[i]?.map fun c => clD (swC c)).getD .non, rfl, rfl, by rw [List.length_map]; exact Nat.lt_of_le_of_lt (show _ ≤ 80 by omega) (by decide), fun i d hd => ?_, ?_⟩
        · obtain ⟨c, hc, rfl⟩ := get_map hd
          refine eg_sqT rfl (egs_cons (eg_name (of_decide_eq_true rfl) (egs_cons (eg_name (of_decide_eq_true rfl) (egs_cons (eg_name (of_decide_eq_true rfl) (egs_cons (eg_name (of_decide_eq_true rfl) (egs_nil ?_)))))))))
          walk_at "nrm"
          rw [hc]
          walk_at "go"
          exact ⟨rfl, rfl⟩
        rw [List.length_map, range_map_get (g := fun c : Cl => clD (swC c))]
        walk_at "go"
        refine ⟨of_decide_eq_true rfl, ?_⟩
        walk_at "nrm"
        walk_at "go"
        refine ap_repr rfl px (shw_res g2) ?_
        walk_at "go"
        refine ap_repr rfl px (shw_res g2) ?_
        walk_at "go"
        rw [show decide ((resP (mrg bs other one)).shown = (resP (mrg bs other one)).shown) = true by simp]
        exact ⟨_, rfl, h _ _⟩
end
end Ek

namespace Ek
open PySem PySem.Spec PyProof.Rows L2 StX
local macro_rules
  | `(tactic| walk_at "nrm") => `(tactic| dsimp only [asgS, bks2, bk1, List.set_cons_zero, List.set_cons_succ, List.set_nil, wipeS, Sl.put, List.getElem?_cons_zero, List.getElem?_cons_succ, List.getElem?_nil, Option.getD_some, Option.getD_none, reduceIte, Nat.reduceEqDiff, List.map_nil, List.map_cons, List.nil_append, List.cons_append, List.replicate])
local macro_rules
  | `(tactic| walk_at "go1") => `(tactic| first
    | with_reducible refine es_seq ?_
    | with_reducible refine es_ret ?_
    | with_reducible refine es_retN ?_
    | with_reducible refine es_drop ?_
    | with_reducible refine es_asg ?_
    | with_reducible refine es_next ?_
    | with_reducible refine es_brk ?_
    | with_reducible refine es_cont ?_
    | with_reducible refine es_if ?_
    | with_reducible refine es_par ?_
    | with_reducible refine es_par3 ?_
    | with_reducible refine ev_op ?_
    | with_reducible refine ev_cb ?_
    | with_reducible refine ev_sl ?_
    | with_reducible refine eo_no ?_
    | with_reducible refine eo_pt ?_
    | with_reducible refine ea_cons ?_
    | with_reducible refine ea_nil ?_
    | with_reducible refine ea_star ?_
    | with_reducible refine ev_tup ?_
    | with_reducible refine ev_lst ?_
    | ((with_reducible refine ev_c (d := ?_) ?_ ?_); rotate_left; · rfl)
    | ((with_reducible refine ev_im (d := ?_) ?_ ?_); rotate_left; · rfl)
    | ((with_reducible refine ev_bo (s := ?_) ?_ ?_ ?_); rotate_left; (· rfl); (· rfl))
    | with_reducible refine ev_andV ?_
    | with_reducible refine ev_orV ?_
    | with_reducible refine ev_notV ?_
    | with_reducible refine ev_if ?_
    | with_reducible refine ev_neg ?_
    | with_reducible refine ev_isN ?_
    | with_reducible refine ev_notN ?_
    | with_reducible refine ev_cal2 ?_
    | refine Exists.intro _ (And.intro (a := Ags _ _ _ = some _) rfl (And.intro (a := ndB _ = true) rfl ?_))
    | with_reducible refine ev_chainI (fun _ _ => rfl) ?_
    | with_reducible refine et_test ?_
    | with_reducible refine et_val ?_
    | with_reducible refine et_and ?_
    | with_reducible refine et_or ?_
    | with_reducible refine et_not ?_
    | with_reducible refine ap_addI ?_
    | with_reducible refine ap_sub ?_
    | with_reducible refine ap_lt ?_
    | with_reducible refine ap_le ?_
    | with_reducible refine ap_gt ?_
    | with_reducible refine ap_ge ?_
    | with_reducible refine ap_eqI ?_
    | with_reducible refine ap_neI ?_
    | with_reducible refine ap_eqS ?_
    | with_reducible refine ap_neS ?_
    | with_reducible refine ap_max ?_
    | with_reducible refine ap_max3 ?_
    | with_reducible refine ap_min ?_
    | with_reducible refine ap_abs ?_
    | with_reducible refine ap_int ?_
    | with_reducible refine ap_intB ?_
    | ((with_reducible refine ap_len (ds := ?_) ?_ ?_); rotate_left; · rfl)
    | with_reducible refine ap_slT ?_
    | with_reducible refine ap_addT ?_ ?_
    | with_reducible refine ap_inS ?_
    | with_reducible refine ap_tupT ?_
    | ((with_reducible refine ap_tupL (ds := ?_) ?_ ?_); rotate_left; · rfl)
    | ((with_reducible refine ap_list (ds := ?_) ?_ ?_); rotate_left; · rfl)
    | refine ap_isi (b := true) rfl rfl (by decide +kernel) ?_
    | refine ap_isi (b := false) rfl rfl (by decide +kernel) ?_
    | with_reducible refine et_yes ?_
    | refine And.intro (a := List.length _ ≤ sizeLine) (of_decide_eq_true rfl) ?_
    | refine ap_ixO (i := 0) rfl rfl ?_
    | refine ap_ixO (i := 1) rfl rfl ?_
    | refine ap_ixO (i := 2) rfl rfl ?_
    | refine ap_ixO (i := 0) rfl (atI_nat (j := 0) rfl) ?_
    | with_reducible refine ei_any ?_
    | with_reducible refine ei_rng1 ?_
    | with_reducible refine ei_rng2 ?_
    | with_reducible refine ei_rng3 ?_
    | with_reducible refine ei_enumT ?_
    | with_reducible refine ⟨fun _ => ?_, fun (e : true = false) => nomatch e⟩
    | refine ⟨fun (e : (!true) = true) => Bool.noConfusion (show false = true from e), fun _ => ?_⟩
    | refine ⟨fun _ => ?_, fun (e : (!false) = false) => Bool.noConfusion (show true = false from e)⟩
    | with_reducible refine ⟨fun (e : false = true) => nomatch e, fun _ => ?_⟩
    | (with_reducible refine ⟨_, rfl, ?_⟩))
local macro_rules
  | `(tactic| walk_at "go") => `(tactic| repeat walk_at "go1")

section
variable {P : Program} {w : World} {K : PySem.W.Frag} {mg : Str → Option Value} {base : Heap}
def A_law : Pr := fun δa q => ∃ ns : List Int, δa = [.im (.sq (ns.map .int))] ∧ ns.length ≤ 1000 ∧ q (.im (.bl true)) δa
set_option maxHeartbeats 4000000 in
theorem ok_law (T : Tx mg) (c__law_places : CalR P w K mg base CX0 1 "_law_places" (FD K A__law_places)) (c__law_pot : CalR P w K mg base CX0 1 "_law_pot" (FD K A__law_pot)) (c__law_right : CalR P w K mg base CX0 6 "_law_right" (FD K A__law_right)) {f : Addr} {fd : FuncData} (F : Fn K "law" s_law f fd) (hm : mg "law" = some (.ref f)) (hb : Binds K fd ["script"] []) : CalR P w K mg base CX0 7 "law" (FD K A_law) := by
  refine cal_fd 1 [] F hm sc_law hb .nil rfl rfl (fun δa q hA => by simp only [A_law] at hA; (repeat obtain ⟨_, hA⟩ := hA); simp only [*, List.length_cons, List.length_nil]) fun cdv Ar outer s H E hG hr => ?_
  have hu : (Ar.deeper (envOfC "law" (defScope s_law) s.heap.objs.size f cdv)).units + 65 < cLine := by have := hr.un; omega
  refine ⟨_, (pss_one (ps_ret (pe_callB (k_all (K := K) rfl rfl) (by rfl) T.z_all (by decide +kernel) (pa_cons (pe_lc (own := [("place", 1)]) rfl sc_law.nd (k_iany (K := K) rfl (pe_cal c__law_places hG (hr.mono (by decide)) pass0 (pa_cons (pv 0) (pa_cons pe_int pa_nil)))) (blkOk_by (N := ["script", "place"]) (sc := defScope s_law) (by decide +kernel)) (fun _ _ _ _ _ => (pg_name (i := 1) sc_law.nd rfl (Or.inl rfl))) (fun _ _ _ _ _ => pts_nil) (fun _ _ _ _ _ => (pe_cal c__law_right hG (hr.mono (by decide)) pass0 (pa_cons (pe_cal c__law_pot hG (hr.mono (by decide)) pass0 (pa_cons (pv 0) (pa_cons (pv 1) pa_nil))) pa_nil)))) pa_nil)))), fun δa q hA => ?_⟩
  obtain ⟨ns, rfl, hn, h⟩ := hA
  change Es K _ [_, Sl.un] _
  walk_at "go"
  refine ev_lcN ?_
  walk_at "go"
  refine ⟨ns.map .int, rfl, by rw [List.length_map]; exact hn, fun k hk => ⟨trivial, ?_⟩⟩
  walk_at "nrm"
  walk_at "go"
  refine ⟨[1], fun _ => .bl true, rfl, rfl, by rw [rngD_len]; exact Nat.lt_of_le_of_lt hk (by decide), fun i d hd => ?_, ?_⟩
  · obtain ⟨hi, rfl⟩ := rngD_get hd
    refine eg_name (of_decide_eq_true rfl) ?_
    walk_at "nrm"
    refine ev_calT ?_
    walk_at "go"
    refine ⟨ns, i, by rw [Int.zero_add, Int.mul_one], hn, by omega, fun a b a0 b0 b1 => ⟨trivial, ?_⟩⟩
    walk_at "nrm"
    walk_at "go"
    exact ⟨a, b, rfl, a0, b0, b1, fun a' c' => ⟨⟨_, rfl⟩, rfl, rfl⟩⟩
  · rw [rngD_len, show (List.range k).map (fun _ => Dt.bl true) = (List.replicate k true).map Dt.bl by
      apply List.ext_getElem <;> simp]
    walk_at "go"
    refine ap_all rfl ?_
    rw [show (List.replicate k true).all id = true by simp]
    exact ⟨_, rfl, h⟩
end
end Ek

/-! Ek17: the law's def is called at the top. -/
namespace Ek
open PySem PySem.Spec PyProof.Rows L2
section
variable {P : Program} {w : World} {K : PySem.W.Frag} {mg mb : Str → Option Value} {k : Nat} {fa a : Addr} {x : Str} {sp : Sp} {t : Shared} {us : List Value} {ns : List Int}
/-- what is left, once the frame told of (J: the abstract heap at the entry) -/
theorem top_after {J : Hp} {r : Result} {t' : Shared} (only : Only J) (jok : HOk P w J t.heap)
    (h : CR CX0 [] P w J t (fun v _ => v = .bl true) (fun _ _ _ => False) r t') : r = .ok (.ret (.bool true)) ∧ OldK t.heap t'.heap ∧ t'.os = t.os ∧ AllBare t'.gens := by
  match r, h with
  | .error e, h => exact h.elim
  | .ok .next, h => exact False.elim h
  | .ok .brk, h => exact False.elim h
  | .ok .cont, h => exact False.elim h
  | .ok (.ret u), h =>
    obtain ⟨v, J', h1, h2, h3, h4, h5, h6⟩ := h
    obtain rfl : v = .bl true := h6
    obtain rfl : u = Value.bool true := h5
    refine ⟨rfl, .of_keep fun b o eb => ?_, h1, h2⟩
    cases jb : J b with
    | none => exact h3.keep b o eb jb (fun z => by cases (show b ∈ ([] : List Addr) from z)) (by simp)
    | some y =>
      rcases only b with n | ⟨ob, ys, n⟩
      · exact absurd (jb.symm.trans n) (by simp)
      · have p1 := (jok b _ n).1
        have p2 := (h4 b _ (h3.frzs b ob _ n)).1
        exact (show o = ob from Option.some.inj (eb.symm.trans p1)) ▸ p2
/-- the call, from an abstract heap that tells at most the script -/
theorem top_core {J : Hp} (KX : K.In t.heap) (hns : t.heap.Ns mainGlobals mg) (hb : t.heap.Ns builtinsNs mb) (hbb : ∀ y : Str, y ≠ "__name__" → mb y = bootBuiltins y) (hlim : t.heap.NoLimit) (hg : t.gens = #[])
    (ha : t.heap.get? a = some { cls := .type "list", data := .seq us.toArray }) (hm : mg x = some (.ref fa)) (hr : Room k callerA)
    (F : ∀ base : Heap, K.In base → base.Ns mainGlobals mg → CalR P w K mg base CX0 k x sp)
    (only : Only J) (jok : HOk P w J t.heap) (ja : ∀ b, J b ≠ none → b = a) (jk : J a ≠ none → K.lookup a = none)
    (hsp : sp [.ref a] J (fun v _ => v = .bl true) fun _ _ _ => False) :
    codeAny (model P w) callerA (.call (.ref fa) ⟨[.ref a], []⟩) (fun r t' => r = .ok (.ret (.bool true)) ∧ OldK t.heap t'.heap ∧ t'.os = t.os ∧ AllBare t'.gens) t := by
  have isDict : ∀ b o es ep, t.heap.get? b = some o → o.data = Data.dict es ep → J b = none := fun b o es ep g d => Classical.byContradiction fun n => by
    rw [ja b n, ha] at g
    cases g
    exact Data.noConfusion d
  have ns' : ∀ b m, t.heap.Ns b m → (hidT t.heap J).Ns b m := fun b m ⟨o, es, ep, g, d, r⟩ => ⟨o, es, ep, hidT_get g (isDict b o es ep g d), d, r⟩
  have kin : K.In (hidT t.heap J) := fun b o g => hidT_get (KX b o g) (Classical.byContradiction fun n => by
    have e := ja b n
    subst e
    rw [jk n] at g
    cases g)
  obtain ⟨ml, l1, l2⟩ := hlim
  have md : Mod K mg (hidT t.heap J) := ⟨kin, ns' _ _ hns, ⟨mb, ns' _ _ hb, hbb⟩, ml, ns' _ _ l1, l2⟩
  obtain ⟨f, hf, _, run⟩ := F _ kin (ns' _ _ hns)
  obtain rfl : f = fa := by rw [hm] at hf; cases hf; rfl
  have en : Env0 P w K mg (hidT t.heap J) callerA [] t J :=
    ⟨rfl, md, fun b o g => of_hidT g, Nat.le_of_eq (hidT_size _ _), trivial, fun b z => (by cases (show b ∈ ([] : List Addr) from z)), jok, .of_eq hg⟩
  exact codeAny_mono (run callerA [] t J [.ref a] [.ref a] _ _ rfl hr en (.cons rfl .nil) hsp) fun r t' h => top_after only jok h
theorem top_call (KX : K.In t.heap) (hns : t.heap.Ns mainGlobals mg) (hb : t.heap.Ns builtinsNs mb) (hbb : ∀ y : Str, y ≠ "__name__" → mb y = bootBuiltins y) (hlim : t.heap.NoLimit) (hg : t.gens = #[])
    (ha : t.heap.get? a = some { cls := .type "list", data := .seq us.toArray }) (hi : IntsAre us ns) (hl : ns.length ≤ sizeLine) (hm : mg x = some (.ref fa)) (hr : Room k callerA)
    (F : ∀ base : Heap, K.In base → base.Ns mainGlobals mg → CalR P w K mg base CX0 k x sp)
    (hsp : ∀ J : Hp, Only J → SqL K J a (ns.map V.int) → sp [.ref a] J (fun v _ => v = .bl true) fun _ _ _ => False) :
    codeAny (model P w) callerA (.call (.ref fa) ⟨[.ref a], []⟩) (fun r t' => r = .ok (.ret (.bool true)) ∧ OldK t.heap t'.heap ∧ t'.os = t.os ∧ AllBare t'.gens) t := by
  have rel := vals_ints hi
  have len := hi.length
  cases ka : K.lookup a with
  | some o =>
    have o2 := KX a o ka
    rw [ha] at o2
    cases o2
    have only : Only fun _ => none := fun _ => .inl rfl
    refine top_core (J := fun _ => none) KX hns hb hbb hlim hg ha hm hr F only (fun b y z => by cases (show (none : Option HO) = some y from z)) (fun b z => (z rfl).elim) (fun z => (z rfl).elim) (hsp _ only ?_)
    exact .inr ⟨_, us.toArray, _, ka, rfl, rfl, rfl, by rw [List.size_toArray, len]; exact hl, by simpa using rel⟩
  | none =>
    let J : Hp := fun b => if b = a then some (.frz { cls := .type "list", data := .seq us.toArray } (.lst (ns.map V.int))) else none
    have j1 : J a = some (.frz { cls := .type "list", data := .seq us.toArray } (.lst (ns.map V.int))) := if_pos rfl
    have j2 : ∀ b, b ≠ a → J b = none := fun b n => if_neg n
    have only : Only J := fun b => by
      by_cases e : b = a
      · exact .inr ⟨_, _, e ▸ j1⟩
      · exact .inl (j2 b e)
    refine top_core (J := J) KX hns hb hbb hlim hg ha hm hr F only (fun b y z => ?_) (fun b z => Classical.byContradiction fun n => z (j2 b n)) (fun _ => ka) (hsp J only (.inl (.inr ⟨_, j1⟩)))
    by_cases e : b = a
    · subst e
      rw [j1] at z
      cases z
      exact ⟨ha, by rw [List.length_map]; exact hl, us, _, rel, ha⟩
    · rw [j2 b e] at z
      cases z
theorem all_ints {J : Hp} : ∀ {ns : List Int}, DdAll K J (ns.map V.int) (ns.map Dt.int)
  | [] => .nil
  | n :: ns => .cons (.int n) all_ints
theorem sat_one {J : Hp} {v : V} {d : Dt} (h : Dd K J v d) : Sat K ⟨J, J, fun _ => none⟩ J J [some v] [.im d] [] := by
  refine ⟨fun _ => [], rfl, fun y => ?_, fun y z b hb _ => (by cases (show b ∈ ([] : List Addr) from hb)), fun y => List.nodup_nil, ⟨Same.refl _, Same.refl _, fun b o e _ => e, fun b e => .inl e, fun b e => ?_, fun b e => ?_, fun b e => ?_⟩⟩
  · cases y with
    | inl i =>
      cases i with
      | zero => exact ⟨rfl, v, rfl, h⟩
      | succ i => exact rfl
    | inr i => exact rfl
  · obtain ⟨j, e⟩ := e; cases e
  · obtain ⟨j, e⟩ := e; cases (show b ∈ ([] : List Addr) from e)
  · obtain ⟨j, e⟩ := e; cases (show b ∈ ([] : List Addr) from e)
/-- the promise of a law's def, met at the top -/
theorem fd_top {A : List Sl → (Sl → List Sl → Prop) → Prop} {J : Hp} (hs : SqL K J a (ns.map V.int)) (hA : A [.im (.sq (ns.map .int))] fun s _ => s = .im (.bl true)) {E : XK} :
    FD K A [.ref a] J (fun v _ => v = .bl true) E := by
  refine ⟨J, fun _ => none, _, sat_one (.sq hs all_ints), _, hA, fun s δ e F' H' v S => ?_⟩
  subst e
  have d := S.popIm (k := 0) rfl
  cases d
  rfl
theorem walk_top {l : PySem.W.OpenLaw} {q : Program} {loose : List Str} {XP : (Str → Option Value) → Heap → Prop} {YP : World → Heap → Prop} {d : DefRec} {K : Params → PySem.W.Frag} {A : List Sl → (Sl → List Sl → Prop) → Prop} {k : Nat}
    (hn : l.most = some 63) (hdf : d.params.defaults = []) (hr : Room k callerA) (hY : ∀ (w : World) (h : Heap), YP w h → (K w.params).In h)
    (F : ∀ (w : World) (mg : Str → Option Value) (h : Heap), (K w.params).In h → h.Ns mainGlobals mg → ∀ base : Heap, (K w.params).In base → base.Ns mainGlobals mg → CalR l.prog w (K w.params) mg base CX0 k d.name (FD (K w.params) A))
    (hA : ∀ ns : List Int, ns.length ≤ 63 → (∀ z ∈ ns, Builtin.Int.intBits z ≤ 1048576) → A [.im (.sq (ns.map .int))] fun s _ => s = .im (.bl true)) :
    PySem.W.WalkO q loose XP YP l.row.toRowW d [] fun f vs => PySem.call f vs :=
  Att.attach_callB hn hdf fun w _ t mg _ _ _ _ _ _ _ us ns G Y _ _ _ hmg hobj hints hlen hbits hg =>
    top_call (hY w _ Y) G.T.g G.T.b G.T.builtins G.T.nolimit hg hobj hints (Nat.le_trans hlen (by decide)) hmg hr (F w mg _ (hY w _ Y) G.T.g) fun _ _ hS => fd_top hS (hA ns hlen hbits)
end
end Ek

namespace Ek
open PySem PySem.Spec PyProof.Rows L2 StX
set_option maxHeartbeats 4000000 in
theorem all_mk {P : Program} {w : World} {K : PySem.W.Frag} {h : Heap} {mg : Str → Option Value} (X : K.In h) (G : h.Ns mainGlobals mg)
    {f0 : Addr} {od0 an0 : Option Addr} {sl0 : Array (Option Value)} {oc0 kV0 dc0 pm0 cd0 ct0 : Value}
    {f1 : Addr} {od1 an1 : Option Addr} {sl1 : Array (Option Value)} {oc1 kV1 dc1 pm1 cd1 ct1 : Value}
    {T1 : Addr} {ot1 : Value} {dt1 : Option Addr} {mt1 : Nat} {st1 : Array (Option Value)} {tk1_0 : Tok}
    {f2 : Addr} {od2 an2 : Option Addr} {sl2 : Array (Option Value)} {oc2 kV2 dc2 pm2 cd2 ct2 : Value}
    {f3 : Addr} {od3 an3 : Option Addr} {sl3 : Array (Option Value)} {oc3 kV3 dc3 pm3 cd3 ct3 : Value}
    {f4 : Addr} {od4 an4 : Option Addr} {sl4 : Array (Option Value)} {oc4 kV4 dc4 pm4 cd4 ct4 : Value}
    {f5 : Addr} {od5 an5 : Option Addr} {sl5 : Array (Option Value)} {oc5 kV5 dc5 pm5 cd5 ct5 : Value}
    {f6 : Addr} {od6 an6 : Option Addr} {sl6 : Array (Option Value)} {oc6 kV6 dc6 pm6 cd6 ct6 : Value}
    {f7 : Addr} {od7 an7 : Option Addr} {sl7 : Array (Option Value)} {oc7 kV7 dc7 pm7 cd7 ct7 : Value}
    {f8 : Addr} {od8 an8 : Option Addr} {sl8 : Array (Option Value)} {oc8 kV8 dc8 pm8 cd8 ct8 : Value}
    {f9 : Addr} {od9 an9 : Option Addr} {sl9 : Array (Option Value)} {oc9 kV9 dc9 pm9 cd9 ct9 : Value}
    {f10 : Addr} {od10 an10 : Option Addr} {sl10 : Array (Option Value)} {oc10 kV10 dc10 pm10 cd10 ct10 : Value}
    {f11 : Addr} {od11 an11 : Option Addr} {sl11 : Array (Option Value)} {oc11 kV11 dc11 pm11 cd11 ct11 : Value}
    {f12 : Addr} {od12 an12 : Option Addr} {sl12 : Array (Option Value)} {oc12 kV12 dc12 pm12 cd12 ct12 : Value}
    {f13 : Addr} {od13 an13 : Option Addr} {sl13 : Array (Option Value)} {oc13 kV13 dc13 pm13 cd13 ct13 : Value}
    {f14 : Addr} {od14 an14 : Option Addr} {sl14 : Array (Option Value)} {oc14 kV14 dc14 pm14 cd14 ct14 : Value}
    {f15 : Addr} {od15 an15 : Option Addr} {sl15 : Array (Option Value)} {oc15 kV15 dc15 pm15 cd15 ct15 : Value}
    {f16 : Addr} {od16 an16 : Option Addr} {sl16 : Array (Option Value)} {oc16 kV16 dc16 pm16 cd16 ct16 : Value}
    {f17 : Addr} {od17 an17 : Option Addr} {sl17 : Array (Option Value)} {oc17 kV17 dc17 pm17 cd17 ct17 : Value}
    {f18 : Addr} {od18 an18 : Option Addr} {sl18 : Array (Option Value)} {oc18 kV18 dc18 pm18 cd18 ct18 : Value}
    {f19 : Addr} {od19 an19 : Option Addr} {sl19 : Array (Option Value)} {oc19 kV19 dc19 pm19 cd19 ct19 : Value}
    {f20 : Addr} {od20 an20 : Option Addr} {sl20 : Array (Option Value)} {oc20 kV20 dc20 pm20 cd20 ct20 : Value}
    {f21 : Addr} {od21 an21 : Option Addr} {sl21 : Array (Option Value)} {oc21 kV21 dc21 pm21 cd21 ct21 : Value}
    {f22 : Addr} {od22 an22 : Option Addr} {sl22 : Array (Option Value)} {oc22 kV22 dc22 pm22 cd22 ct22 : Value}
    {f23 : Addr} {od23 an23 : Option Addr} {sl23 : Array (Option Value)} {oc23 kV23 dc23 pm23 cd23 ct23 : Value}
    {f24 : Addr} {od24 an24 : Option Addr} {sl24 : Array (Option Value)} {oc24 kV24 dc24 pm24 cd24 ct24 : Value}
    {f25 : Addr} {od25 an25 : Option Addr} {sl25 : Array (Option Value)} {oc25 kV25 dc25 pm25 cd25 ct25 : Value}
    {f26 : Addr} {od26 an26 : Option Addr} {sl26 : Array (Option Value)} {oc26 kV26 dc26 pm26 cd26 ct26 : Value}
    {f27 : Addr} {od27 an27 : Option Addr} {sl27 : Array (Option Value)} {oc27 kV27 dc27 pm27 cd27 ct27 : Value}
    {f28 : Addr} {od28 an28 : Option Addr} {sl28 : Array (Option Value)} {oc28 kV28 dc28 pm28 cd28 ct28 : Value}
    {t_CLASH : Tok}
    {t_KEEP : Tok}
    {t_MERGED : Tok}
    {t_MOST_PIECE : Tok}
    {t_MOST_ROW : Tok}
    {t_MOST_SIGNS : Tok}
    {t_SIGNS : Tok}
    {t_TURN : Tok}
    (a0 : PySem.W.nsIn K mainGlobals "is_tuple" = some (some (.ref f0)))
    (l0 : K.lookup f0 = some ⟨oc0, od0, .func (PySem.W.fnOf "is_tuple" "is_tuple" (defArgs s_is_tuple) (defBody s_is_tuple) (defScope s_is_tuple) .none kV0 dc0 pm0 an0 cd0 ct0), sl0⟩)
    (c0 : PySem.W.codeIn K cd0 "is_tuple" = true)
    (k0 : PySem.W.keepIn K (.ref f0) = true)
    (a1 : PySem.W.nsIn K mainGlobals "is_text" = some (some (.ref f1)))
    (l1 : K.lookup f1 = some ⟨oc1, od1, .func (PySem.W.fnOf "is_text" "is_text" (defArgs s_is_text) (defBody s_is_text) (defScope s_is_text) (.ref T1) kV1 dc1 pm1 an1 cd1 ct1), sl1⟩)
    (c1 : PySem.W.codeIn K cd1 "is_text" = true)
    (k1 : PySem.W.keepIn K (.ref f1) = true)
    (d1 : K.lookup T1 = some ⟨ot1, dt1, .seq #[.int 400 tk1_0] mt1, st1⟩)
    (a2 : PySem.W.nsIn K mainGlobals "longest_from" = some (some (.ref f2)))
    (l2 : K.lookup f2 = some ⟨oc2, od2, .func (PySem.W.fnOf "longest_from" "longest_from" (defArgs s_longest_from) (defBody s_longest_from) (defScope s_longest_from) .none kV2 dc2 pm2 an2 cd2 ct2), sl2⟩)
    (c2 : PySem.W.codeIn K cd2 "longest_from" = true)
    (k2 : PySem.W.keepIn K (.ref f2) = true)
    (a3 : PySem.W.nsIn K mainGlobals "fits" = some (some (.ref f3)))
    (l3 : K.lookup f3 = some ⟨oc3, od3, .func (PySem.W.fnOf "fits" "fits" (defArgs s_fits) (defBody s_fits) (defScope s_fits) .none kV3 dc3 pm3 an3 cd3 ct3), sl3⟩)
    (c3 : PySem.W.codeIn K cd3 "fits" = true)
    (k3 : PySem.W.keepIn K (.ref f3) = true)
    (a4 : PySem.W.nsIn K mainGlobals "taken_of" = some (some (.ref f4)))
    (l4 : K.lookup f4 = some ⟨oc4, od4, .func (PySem.W.fnOf "taken_of" "taken_of" (defArgs s_taken_of) (defBody s_taken_of) (defScope s_taken_of) .none kV4 dc4 pm4 an4 cd4 ct4), sl4⟩)
    (c4 : PySem.W.codeIn K cd4 "taken_of" = true)
    (k4 : PySem.W.keepIn K (.ref f4) = true)
    (a5 : PySem.W.nsIn K mainGlobals "_law_pot" = some (some (.ref f5)))
    (l5 : K.lookup f5 = some ⟨oc5, od5, .func (PySem.W.fnOf "_law_pot" "_law_pot" (defArgs s__law_pot) (defBody s__law_pot) (defScope s__law_pot) .none kV5 dc5 pm5 an5 cd5 ct5), sl5⟩)
    (c5 : PySem.W.codeIn K cd5 "_law_pot" = true)
    (k5 : PySem.W.keepIn K (.ref f5) = true)
    (a6 : PySem.W.nsIn K mainGlobals "_law_take" = some (some (.ref f6)))
    (l6 : K.lookup f6 = some ⟨oc6, od6, .func (PySem.W.fnOf "_law_take" "_law_take" (defArgs s__law_take) (defBody s__law_take) (defScope s__law_take) .none kV6 dc6 pm6 an6 cd6 ct6), sl6⟩)
    (c6 : PySem.W.codeIn K cd6 "_law_take" = true)
    (k6 : PySem.W.keepIn K (.ref f6) = true)
    (a7 : PySem.W.nsIn K mainGlobals "_law_places" = some (some (.ref f7)))
    (l7 : K.lookup f7 = some ⟨oc7, od7, .func (PySem.W.fnOf "_law_places" "_law_places" (defArgs s__law_places) (defBody s__law_places) (defScope s__law_places) .none kV7 dc7 pm7 an7 cd7 ct7), sl7⟩)
    (c7 : PySem.W.codeIn K cd7 "_law_places" = true)
    (k7 : PySem.W.keepIn K (.ref f7) = true)
    (a8 : PySem.W.nsIn K mainGlobals "_law_signs" = some (some (.ref f8)))
    (l8 : K.lookup f8 = some ⟨oc8, od8, .func (PySem.W.fnOf "_law_signs" "_law_signs" (defArgs s__law_signs) (defBody s__law_signs) (defScope s__law_signs) .none kV8 dc8 pm8 an8 cd8 ct8), sl8⟩)
    (c8 : PySem.W.codeIn K cd8 "_law_signs" = true)
    (k8 : PySem.W.keepIn K (.ref f8) = true)
    (a9 : PySem.W.nsIn K mainGlobals "_law_most" = some (some (.ref f9)))
    (l9 : K.lookup f9 = some ⟨oc9, od9, .func (PySem.W.fnOf "_law_most" "_law_most" (defArgs s__law_most) (defBody s__law_most) (defScope s__law_most) .none kV9 dc9 pm9 an9 cd9 ct9), sl9⟩)
    (c9 : PySem.W.codeIn K cd9 "_law_most" = true)
    (k9 : PySem.W.keepIn K (.ref f9) = true)
    (a10 : PySem.W.nsIn K mainGlobals "check_row" = some (some (.ref f10)))
    (l10 : K.lookup f10 = some ⟨oc10, od10, .func (PySem.W.fnOf "check_row" "check_row" (defArgs s_check_row) (defBody s_check_row) (defScope s_check_row) .none kV10 dc10 pm10 an10 cd10 ct10), sl10⟩)
    (c10 : PySem.W.codeIn K cd10 "check_row" = true)
    (k10 : PySem.W.keepIn K (.ref f10) = true)
    (a11 : PySem.W.nsIn K mainGlobals "pairs_of" = some (some (.ref f11)))
    (l11 : K.lookup f11 = some ⟨oc11, od11, .func (PySem.W.fnOf "pairs_of" "pairs_of" (defArgs s_pairs_of) (defBody s_pairs_of) (defScope s_pairs_of) .none kV11 dc11 pm11 an11 cd11 ct11), sl11⟩)
    (c11 : PySem.W.codeIn K cd11 "pairs_of" = true)
    (k11 : PySem.W.keepIn K (.ref f11) = true)
    (a12 : PySem.W.nsIn K mainGlobals "is_block" = some (some (.ref f12)))
    (l12 : K.lookup f12 = some ⟨oc12, od12, .func (PySem.W.fnOf "is_block" "is_block" (defArgs s_is_block) (defBody s_is_block) (defScope s_is_block) .none kV12 dc12 pm12 an12 cd12 ct12), sl12⟩)
    (c12 : PySem.W.codeIn K cd12 "is_block" = true)
    (k12 : PySem.W.keepIn K (.ref f12) = true)
    (a13 : PySem.W.nsIn K mainGlobals "_law_of" = some (some (.ref f13)))
    (l13 : K.lookup f13 = some ⟨oc13, od13, .func (PySem.W.fnOf "_law_of" "_law_of" (defArgs s__law_of) (defBody s__law_of) (defScope s__law_of) .none kV13 dc13 pm13 an13 cd13 ct13), sl13⟩)
    (c13 : PySem.W.codeIn K cd13 "_law_of" = true)
    (k13 : PySem.W.keepIn K (.ref f13) = true)
    (a14 : PySem.W.nsIn K mainGlobals "_law_pairs" = some (some (.ref f14)))
    (l14 : K.lookup f14 = some ⟨oc14, od14, .func (PySem.W.fnOf "_law_pairs" "_law_pairs" (defArgs s__law_pairs) (defBody s__law_pairs) (defScope s__law_pairs) .none kV14 dc14 pm14 an14 cd14 ct14), sl14⟩)
    (c14 : PySem.W.codeIn K cd14 "_law_pairs" = true)
    (k14 : PySem.W.keepIn K (.ref f14) = true)
    (a15 : PySem.W.nsIn K mainGlobals "common" = some (some (.ref f15)))
    (l15 : K.lookup f15 = some ⟨oc15, od15, .func (PySem.W.fnOf "common" "common" (defArgs s_common) (defBody s_common) (defScope s_common) .none kV15 dc15 pm15 an15 cd15 ct15), sl15⟩)
    (c15 : PySem.W.codeIn K cd15 "common" = true)
    (k15 : PySem.W.keepIn K (.ref f15) = true)
    (a16 : PySem.W.nsIn K mainGlobals "blocks_of" = some (some (.ref f16)))
    (l16 : K.lookup f16 = some ⟨oc16, od16, .func (PySem.W.fnOf "blocks_of" "blocks_of" (defArgs s_blocks_of) (defBody s_blocks_of) (defScope s_blocks_of) .none kV16 dc16 pm16 an16 cd16 ct16), sl16⟩)
    (c16 : PySem.W.codeIn K cd16 "blocks_of" = true)
    (k16 : PySem.W.keepIn K (.ref f16) = true)
    (a17 : PySem.W.nsIn K mainGlobals "is_changes" = some (some (.ref f17)))
    (l17 : K.lookup f17 = some ⟨oc17, od17, .func (PySem.W.fnOf "is_changes" "is_changes" (defArgs s_is_changes) (defBody s_is_changes) (defScope s_is_changes) .none kV17 dc17 pm17 an17 cd17 ct17), sl17⟩)
    (c17 : PySem.W.codeIn K cd17 "is_changes" = true)
    (k17 : PySem.W.keepIn K (.ref f17) = true)
    (a18 : PySem.W.nsIn K mainGlobals "stable_places" = some (some (.ref f18)))
    (l18 : K.lookup f18 = some ⟨oc18, od18, .func (PySem.W.fnOf "stable_places" "stable_places" (defArgs s_stable_places) (defBody s_stable_places) (defScope s_stable_places) .none kV18 dc18 pm18 an18 cd18 ct18), sl18⟩)
    (c18 : PySem.W.codeIn K cd18 "stable_places" = true)
    (k18 : PySem.W.keepIn K (.ref f18) = true)
    (a19 : PySem.W.nsIn K mainGlobals "_law_blocks" = some (some (.ref f19)))
    (l19 : K.lookup f19 = some ⟨oc19, od19, .func (PySem.W.fnOf "_law_blocks" "_law_blocks" (defArgs s__law_blocks) (defBody s__law_blocks) (defScope s__law_blocks) .none kV19 dc19 pm19 an19 cd19 ct19), sl19⟩)
    (c19 : PySem.W.codeIn K cd19 "_law_blocks" = true)
    (k19 : PySem.W.keepIn K (.ref f19) = true)
    (a20 : PySem.W.nsIn K mainGlobals "_law_merged" = some (some (.ref f20)))
    (l20 : K.lookup f20 = some ⟨oc20, od20, .func (PySem.W.fnOf "_law_merged" "_law_merged" (defArgs s__law_merged) (defBody s__law_merged) (defScope s__law_merged) .none kV20 dc20 pm20 an20 cd20 ct20), sl20⟩)
    (c20 : PySem.W.codeIn K cd20 "_law_merged" = true)
    (k20 : PySem.W.keepIn K (.ref f20) = true)
    (a21 : PySem.W.nsIn K mainGlobals "_law_bent" = some (some (.ref f21)))
    (l21 : K.lookup f21 = some ⟨oc21, od21, .func (PySem.W.fnOf "_law_bent" "_law_bent" (defArgs s__law_bent) (defBody s__law_bent) (defScope s__law_bent) .none kV21 dc21 pm21 an21 cd21 ct21), sl21⟩)
    (c21 : PySem.W.codeIn K cd21 "_law_bent" = true)
    (k21 : PySem.W.keepIn K (.ref f21) = true)
    (a22 : PySem.W.nsIn K mainGlobals "changes" = some (some (.ref f22)))
    (l22 : K.lookup f22 = some ⟨oc22, od22, .func (PySem.W.fnOf "changes" "changes" (defArgs s_changes) (defBody s_changes) (defScope s_changes) .none kV22 dc22 pm22 an22 cd22 ct22), sl22⟩)
    (c22 : PySem.W.codeIn K cd22 "changes" = true)
    (k22 : PySem.W.keepIn K (.ref f22) = true)
    (a23 : PySem.W.nsIn K mainGlobals "changed" = some (some (.ref f23)))
    (l23 : K.lookup f23 = some ⟨oc23, od23, .func (PySem.W.fnOf "changed" "changed" (defArgs s_changed) (defBody s_changed) (defScope s_changed) .none kV23 dc23 pm23 an23 cd23 ct23), sl23⟩)
    (c23 : PySem.W.codeIn K cd23 "changed" = true)
    (k23 : PySem.W.keepIn K (.ref f23) = true)
    (a24 : PySem.W.nsIn K mainGlobals "merged_rows" = some (some (.ref f24)))
    (l24 : K.lookup f24 = some ⟨oc24, od24, .func (PySem.W.fnOf "merged_rows" "merged_rows" (defArgs s_merged_rows) (defBody s_merged_rows) (defScope s_merged_rows) .none kV24 dc24 pm24 an24 cd24 ct24), sl24⟩)
    (c24 : PySem.W.codeIn K cd24 "merged_rows" = true)
    (k24 : PySem.W.keepIn K (.ref f24) = true)
    (a25 : PySem.W.nsIn K mainGlobals "merged" = some (some (.ref f25)))
    (l25 : K.lookup f25 = some ⟨oc25, od25, .func (PySem.W.fnOf "merged" "merged" (defArgs s_merged) (defBody s_merged) (defScope s_merged) .none kV25 dc25 pm25 an25 cd25 ct25), sl25⟩)
    (c25 : PySem.W.codeIn K cd25 "merged" = true)
    (k25 : PySem.W.keepIn K (.ref f25) = true)
    (a26 : PySem.W.nsIn K mainGlobals "_law_is_pair_right" = some (some (.ref f26)))
    (l26 : K.lookup f26 = some ⟨oc26, od26, .func (PySem.W.fnOf "_law_is_pair_right" "_law_is_pair_right" (defArgs s__law_is_pair_right) (defBody s__law_is_pair_right) (defScope s__law_is_pair_right) .none kV26 dc26 pm26 an26 cd26 ct26), sl26⟩)
    (c26 : PySem.W.codeIn K cd26 "_law_is_pair_right" = true)
    (k26 : PySem.W.keepIn K (.ref f26) = true)
    (a27 : PySem.W.nsIn K mainGlobals "_law_right" = some (some (.ref f27)))
    (l27 : K.lookup f27 = some ⟨oc27, od27, .func (PySem.W.fnOf "_law_right" "_law_right" (defArgs s__law_right) (defBody s__law_right) (defScope s__law_right) .none kV27 dc27 pm27 an27 cd27 ct27), sl27⟩)
    (c27 : PySem.W.codeIn K cd27 "_law_right" = true)
    (k27 : PySem.W.keepIn K (.ref f27) = true)
    (a28 : PySem.W.nsIn K mainGlobals "law" = some (some (.ref f28)))
    (l28 : K.lookup f28 = some ⟨oc28, od28, .func (PySem.W.fnOf "law" "law" (defArgs s_law) (defBody s_law) (defScope s_law) .none kV28 dc28 pm28 an28 cd28 ct28), sl28⟩)
    (c28 : PySem.W.codeIn K cd28 "law" = true)
    (k28 : PySem.W.keepIn K (.ref f28) = true)
    (g_CLASH : PySem.W.nsIn K mainGlobals "CLASH" = some (some (.str "clash" t_CLASH)))
    (g_KEEP : PySem.W.nsIn K mainGlobals "KEEP" = some (some (.str "keep" t_KEEP)))
    (g_MERGED : PySem.W.nsIn K mainGlobals "MERGED" = some (some (.str "merged" t_MERGED)))
    (g_MOST_PIECE : PySem.W.nsIn K mainGlobals "MOST_PIECE" = some (some (.int 100 t_MOST_PIECE)))
    (g_MOST_ROW : PySem.W.nsIn K mainGlobals "MOST_ROW" = some (some (.int 40 t_MOST_ROW)))
    (g_MOST_SIGNS : PySem.W.nsIn K mainGlobals "MOST_SIGNS" = some (some (.int 400 t_MOST_SIGNS)))
    (g_SIGNS : PySem.W.nsIn K mainGlobals "SIGNS" = some (some (.str "\n ,-.0123456789:;=abcdefghijklmnopqrstuvwxyz" t_SIGNS)))
    (g_TURN : PySem.W.nsIn K mainGlobals "TURN" = some (some (.str "turn" t_TURN)))
    (z_abs : PySem.W.nsIn K mainGlobals "abs" = some none)
    (z_all : PySem.W.nsIn K mainGlobals "all" = some none)
    (z_bool : PySem.W.nsIn K mainGlobals "bool" = some none)
    (z_dict : PySem.W.nsIn K mainGlobals "dict" = some none)
    (z_enumerate : PySem.W.nsIn K mainGlobals "enumerate" = some none)
    (z_int : PySem.W.nsIn K mainGlobals "int" = some none)
    (z_isinstance : PySem.W.nsIn K mainGlobals "isinstance" = some none)
    (z_len : PySem.W.nsIn K mainGlobals "len" = some none)
    (z_list : PySem.W.nsIn K mainGlobals "list" = some none)
    (z_max : PySem.W.nsIn K mainGlobals "max" = some none)
    (z_min : PySem.W.nsIn K mainGlobals "min" = some none)
    (z_range : PySem.W.nsIn K mainGlobals "range" = some none)
    (z_repr : PySem.W.nsIn K mainGlobals "repr" = some none)
    (z_str : PySem.W.nsIn K mainGlobals "str" = some none)
    (z_sum : PySem.W.nsIn K mainGlobals "sum" = some none)
    (z_tuple : PySem.W.nsIn K mainGlobals "tuple" = some none)
    (base : Heap) : CalR P w K mg base CX0 7 "law" (FD K A_law) := by
  have T : Tx mg := ⟨⟨_, PySem.W.mg_of X G g_CLASH⟩, ⟨_, PySem.W.mg_of X G g_KEEP⟩, ⟨_, PySem.W.mg_of X G g_MERGED⟩, ⟨_, PySem.W.mg_of X G g_MOST_PIECE⟩, ⟨_, PySem.W.mg_of X G g_MOST_ROW⟩, ⟨_, PySem.W.mg_of X G g_MOST_SIGNS⟩, ⟨_, PySem.W.mg_of X G g_SIGNS⟩, ⟨_, PySem.W.mg_of X G g_TURN⟩, PySem.W.mg_none_of X G z_abs, PySem.W.mg_none_of X G z_all, PySem.W.mg_none_of X G z_bool, PySem.W.mg_none_of X G z_dict, PySem.W.mg_none_of X G z_enumerate, PySem.W.mg_none_of X G z_int, PySem.W.mg_none_of X G z_isinstance, PySem.W.mg_none_of X G z_len, PySem.W.mg_none_of X G z_list, PySem.W.mg_none_of X G z_max, PySem.W.mg_none_of X G z_min, PySem.W.mg_none_of X G z_range, PySem.W.mg_none_of X G z_repr, PySem.W.mg_none_of X G z_str, PySem.W.mg_none_of X G z_sum, PySem.W.mg_none_of X G z_tuple⟩
  have F0 := fn_mk (x := "is_tuple") (st := s_is_tuple) l0 c0 k0
  have b0 : Binds K (PySem.W.fnOf "is_tuple" "is_tuple" (defArgs s_is_tuple) (defBody s_is_tuple) (defScope s_is_tuple) .none kV0 dc0 pm0 an0 cd0 ct0) ["value", "least", "most"] [] := .all fun us hl => match us, hl with | [_, _, _], _ => rfl
  have o0 := ok_is_tuple (P := P) (w := w) (base := base) T  F0 (PySem.W.mg_of X G a0) b0
  have F1 := fn_mk (x := "is_text") (st := s_is_text) l1 c1 k1
  have b1 : Binds K (PySem.W.fnOf "is_text" "is_text" (defArgs s_is_text) (defBody s_is_text) (defScope s_is_text) (.ref T1) kV1 dc1 pm1 an1 cd1 ct1) ["value", "most"] [] := by
    have D : FunD K "is_text" "is_text" (defArgs s_is_text) (defBody s_is_text) (defScope s_is_text) [.int 400] [] f1 (PySem.W.fnOf "is_text" "is_text" (defArgs s_is_text) (defBody s_is_text) (defScope s_is_text) (.ref T1) kV1 dc1 pm1 an1 cd1 ct1) := ⟨⟨_, _, _, _, _, _, _, _, _, _, rfl, l1, c1, .inr ⟨by simp, _, _, _, _, rfl, d1, rfl, .cons ⟨_, rfl⟩ (.nil)⟩, .inl rfl⟩, k1⟩
    obtain ⟨ds, r, b⟩ := D.binds1 (ps := ["value", "most"]) 2 1 (by simp) rfl fun T kV doc pm an cdv ct us its hu hi => match us, its, hu, hi with | [_, _], [_], _, _ => ⟨_, rfl, rfl⟩
    cases r
    exact b
  have o1 := ok_is_text (P := P) (w := w) (base := base) T  F1 (PySem.W.mg_of X G a1) b1
  have F2 := fn_mk (x := "longest_from") (st := s_longest_from) l2 c2 k2
  have b2 : Binds K (PySem.W.fnOf "longest_from" "longest_from" (defArgs s_longest_from) (defBody s_longest_from) (defScope s_longest_from) .none kV2 dc2 pm2 an2 cd2 ct2) ["one", "other"] [] := .all fun us hl => match us, hl with | [_, _], _ => rfl
  have o2 := ok_longest_from (P := P) (w := w) (base := base) T  F2 (PySem.W.mg_of X G a2) b2
  have F3 := fn_mk (x := "fits") (st := s_fits) l3 c3 k3
  have b3 : Binds K (PySem.W.fnOf "fits" "fits" (defArgs s_fits) (defBody s_fits) (defScope s_fits) .none kV3 dc3 pm3 an3 cd3 ct3) ["one", "other", "most", "place", "at", "left"] [] := .all fun us hl => match us, hl with | [_, _, _, _, _, _], _ => rfl
  have o3 := ok_fits (P := P) (w := w) (base := base) T  F3 (PySem.W.mg_of X G a3) b3
  have F4 := fn_mk (x := "taken_of") (st := s_taken_of) l4 c4 k4
  have b4 : Binds K (PySem.W.fnOf "taken_of" "taken_of" (defArgs s_taken_of) (defBody s_taken_of) (defScope s_taken_of) .none kV4 dc4 pm4 an4 cd4 ct4) ["parts"] [] := .all fun us hl => match us, hl with | [_], _ => rfl
  have o4 := ok_taken_of (P := P) (w := w) (base := base) T  F4 (PySem.W.mg_of X G a4) b4
  have F5 := fn_mk (x := "_law_pot") (st := s__law_pot) l5 c5 k5
  have b5 : Binds K (PySem.W.fnOf "_law_pot" "_law_pot" (defArgs s__law_pot) (defBody s__law_pot) (defScope s__law_pot) .none kV5 dc5 pm5 an5 cd5 ct5) ["script", "place"] [] := .all fun us hl => match us, hl with | [_, _], _ => rfl
  have o5 := ok__law_pot (P := P) (w := w) (base := base) T  F5 (PySem.W.mg_of X G a5) b5
  have F6 := fn_mk (x := "_law_take") (st := s__law_take) l6 c6 k6
  have b6 : Binds K (PySem.W.fnOf "_law_take" "_law_take" (defArgs s__law_take) (defBody s__law_take) (defScope s__law_take) .none kV6 dc6 pm6 an6 cd6 ct6) ["pot", "upto"] [] := .all fun us hl => match us, hl with | [_, _], _ => rfl
  have o6 := ok__law_take (P := P) (w := w) (base := base) T  F6 (PySem.W.mg_of X G a6) b6
  have F7 := fn_mk (x := "_law_places") (st := s__law_places) l7 c7 k7
  have b7 : Binds K (PySem.W.fnOf "_law_places" "_law_places" (defArgs s__law_places) (defBody s__law_places) (defScope s__law_places) .none kV7 dc7 pm7 an7 cd7 ct7) ["script", "most"] [] := .all fun us hl => match us, hl with | [_, _], _ => rfl
  have o7 := ok__law_places (P := P) (w := w) (base := base) T  F7 (PySem.W.mg_of X G a7) b7
  have F8 := fn_mk (x := "_law_signs") (st := s__law_signs) l8 c8 k8
  have b8 : Binds K (PySem.W.fnOf "_law_signs" "_law_signs" (defArgs s__law_signs) (defBody s__law_signs) (defScope s__law_signs) .none kV8 dc8 pm8 an8 cd8 ct8) [] [] := .all fun us hl => match us, hl with | [], _ => rfl
  have o8 := ok__law_signs (P := P) (w := w) (base := base) T  F8 (PySem.W.mg_of X G a8) b8
  have F9 := fn_mk (x := "_law_most") (st := s__law_most) l9 c9 k9
  have b9 : Binds K (PySem.W.fnOf "_law_most" "_law_most" (defArgs s__law_most) (defBody s__law_most) (defScope s__law_most) .none kV9 dc9 pm9 an9 cd9 ct9) ["one", "other"] [] := .all fun us hl => match us, hl with | [_, _], _ => rfl
  have o9 := ok__law_most (P := P) (w := w) (base := base) T  F9 (PySem.W.mg_of X G a9) b9
  have F10 := fn_mk (x := "check_row") (st := s_check_row) l10 c10 k10
  have b10 : Binds K (PySem.W.fnOf "check_row" "check_row" (defArgs s_check_row) (defBody s_check_row) (defScope s_check_row) .none kV10 dc10 pm10 an10 cd10 ct10) ["value"] [] := .all fun us hl => match us, hl with | [_], _ => rfl
  have o10 := ok_check_row (P := P) (w := w) (base := base) T o1 o0 F10 (PySem.W.mg_of X G a10) b10
  have F11 := fn_mk (x := "pairs_of") (st := s_pairs_of) l11 c11 k11
  have b11 : Binds K (PySem.W.fnOf "pairs_of" "pairs_of" (defArgs s_pairs_of) (defBody s_pairs_of) (defScope s_pairs_of) .none kV11 dc11 pm11 an11 cd11 ct11) ["one", "other"] [] := .all fun us hl => match us, hl with | [_, _], _ => rfl
  have o11 := ok_pairs_of (P := P) (w := w) (base := base) T o3 o2 F11 (PySem.W.mg_of X G a11) b11
  have F12 := fn_mk (x := "is_block") (st := s_is_block) l12 c12 k12
  have b12 : Binds K (PySem.W.fnOf "is_block" "is_block" (defArgs s_is_block) (defBody s_is_block) (defScope s_is_block) .none kV12 dc12 pm12 an12 cd12 ct12) ["value"] [] := .all fun us hl => match us, hl with | [_], _ => rfl
  have o12 := ok_is_block (P := P) (w := w) (base := base) T o1 o0 F12 (PySem.W.mg_of X G a12) b12
  have F13 := fn_mk (x := "_law_of") (st := s__law_of) l13 c13 k13
  have b13 : Binds K (PySem.W.fnOf "_law_of" "_law_of" (defArgs s__law_of) (defBody s__law_of) (defScope s__law_of) .none kV13 dc13 pm13 an13 cd13 ct13) ["pot", "some"] [] := .all fun us hl => match us, hl with | [_, _], _ => rfl
  have o13 := ok__law_of (P := P) (w := w) (base := base) T o6 F13 (PySem.W.mg_of X G a13) b13
  have F14 := fn_mk (x := "_law_pairs") (st := s__law_pairs) l14 c14 k14
  have b14 : Binds K (PySem.W.fnOf "_law_pairs" "_law_pairs" (defArgs s__law_pairs) (defBody s__law_pairs) (defScope s__law_pairs) .none kV14 dc14 pm14 an14 cd14 ct14) ["one", "other"] [] := .all fun us hl => match us, hl with | [_, _], _ => rfl
  have o14 := ok__law_pairs (P := P) (w := w) (base := base) T o9 F14 (PySem.W.mg_of X G a14) b14
  have F15 := fn_mk (x := "common") (st := s_common) l15 c15 k15
  have b15 : Binds K (PySem.W.fnOf "common" "common" (defArgs s_common) (defBody s_common) (defScope s_common) .none kV15 dc15 pm15 an15 cd15 ct15) ["one", "other"] [] := .all fun us hl => match us, hl with | [_, _], _ => rfl
  have o15 := ok_common (P := P) (w := w) (base := base) T o10 o11 F15 (PySem.W.mg_of X G a15) b15
  have F16 := fn_mk (x := "blocks_of") (st := s_blocks_of) l16 c16 k16
  have b16 : Binds K (PySem.W.fnOf "blocks_of" "blocks_of" (defArgs s_blocks_of) (defBody s_blocks_of) (defScope s_blocks_of) .none kV16 dc16 pm16 an16 cd16 ct16) ["one", "other"] [] := .all fun us hl => match us, hl with | [_, _], _ => rfl
  have o16 := ok_blocks_of (P := P) (w := w) (base := base) T o11 F16 (PySem.W.mg_of X G a16) b16
  have F17 := fn_mk (x := "is_changes") (st := s_is_changes) l17 c17 k17
  have b17 : Binds K (PySem.W.fnOf "is_changes" "is_changes" (defArgs s_is_changes) (defBody s_is_changes) (defScope s_is_changes) .none kV17 dc17 pm17 an17 cd17 ct17) ["value"] [] := .all fun us hl => match us, hl with | [_], _ => rfl
  have o17 := ok_is_changes (P := P) (w := w) (base := base) T o12 o0 F17 (PySem.W.mg_of X G a17) b17
  have F18 := fn_mk (x := "stable_places") (st := s_stable_places) l18 c18 k18
  have b18 : Binds K (PySem.W.fnOf "stable_places" "stable_places" (defArgs s_stable_places) (defBody s_stable_places) (defScope s_stable_places) .none kV18 dc18 pm18 an18 cd18 ct18) ["base", "one", "other"] [] := .all fun us hl => match us, hl with | [_, _, _], _ => rfl
  have o18 := ok_stable_places (P := P) (w := w) (base := base) T o11 F18 (PySem.W.mg_of X G a18) b18
  have F19 := fn_mk (x := "_law_blocks") (st := s__law_blocks) l19 c19 k19
  have b19 : Binds K (PySem.W.fnOf "_law_blocks" "_law_blocks" (defArgs s__law_blocks) (defBody s__law_blocks) (defScope s__law_blocks) .none kV19 dc19 pm19 an19 cd19 ct19) ["one", "other"] [] := .all fun us hl => match us, hl with | [_, _], _ => rfl
  have o19 := ok__law_blocks (P := P) (w := w) (base := base) T o14 F19 (PySem.W.mg_of X G a19) b19
  have F20 := fn_mk (x := "_law_merged") (st := s__law_merged) l20 c20 k20
  have b20 : Binds K (PySem.W.fnOf "_law_merged" "_law_merged" (defArgs s__law_merged) (defBody s__law_merged) (defScope s__law_merged) .none kV20 dc20 pm20 an20 cd20 ct20) ["base", "one", "other"] [] := .all fun us hl => match us, hl with | [_, _, _], _ => rfl
  have o20 := ok__law_merged (P := P) (w := w) (base := base) T o14 F20 (PySem.W.mg_of X G a20) b20
  have F21 := fn_mk (x := "_law_bent") (st := s__law_bent) l21 c21 k21
  have b21 : Binds K (PySem.W.fnOf "_law_bent" "_law_bent" (defArgs s__law_bent) (defBody s__law_bent) (defScope s__law_bent) .none kV21 dc21 pm21 an21 cd21 ct21) ["pot", "row", "pool"] [] := .all fun us hl => match us, hl with | [_, _, _], _ => rfl
  have o21 := ok__law_bent (P := P) (w := w) (base := base) T o13 o6 F21 (PySem.W.mg_of X G a21) b21
  have F22 := fn_mk (x := "changes") (st := s_changes) l22 c22 k22
  have b22 : Binds K (PySem.W.fnOf "changes" "changes" (defArgs s_changes) (defBody s_changes) (defScope s_changes) .none kV22 dc22 pm22 an22 cd22 ct22) ["one", "other"] [] := .all fun us hl => match us, hl with | [_, _], _ => rfl
  have o22 := ok_changes (P := P) (w := w) (base := base) T o16 o10 F22 (PySem.W.mg_of X G a22) b22
  have F23 := fn_mk (x := "changed") (st := s_changed) l23 c23 k23
  have b23 : Binds K (PySem.W.fnOf "changed" "changed" (defArgs s_changed) (defBody s_changed) (defScope s_changed) .none kV23 dc23 pm23 an23 cd23 ct23) ["row", "value"] [] := .all fun us hl => match us, hl with | [_, _], _ => rfl
  have o23 := ok_changed (P := P) (w := w) (base := base) T o10 o17 F23 (PySem.W.mg_of X G a23) b23
  have F24 := fn_mk (x := "merged_rows") (st := s_merged_rows) l24 c24 k24
  have b24 : Binds K (PySem.W.fnOf "merged_rows" "merged_rows" (defArgs s_merged_rows) (defBody s_merged_rows) (defScope s_merged_rows) .none kV24 dc24 pm24 an24 cd24 ct24) ["base", "one", "other"] [] := .all fun us hl => match us, hl with | [_, _, _], _ => rfl
  have o24 := ok_merged_rows (P := P) (w := w) (base := base) T o18 o4 F24 (PySem.W.mg_of X G a24) b24
  have F25 := fn_mk (x := "merged") (st := s_merged) l25 c25 k25
  have b25 : Binds K (PySem.W.fnOf "merged" "merged" (defArgs s_merged) (defBody s_merged) (defScope s_merged) .none kV25 dc25 pm25 an25 cd25 ct25) ["base", "one", "other"] [] := .all fun us hl => match us, hl with | [_, _, _], _ => rfl
  have o25 := ok_merged (P := P) (w := w) (base := base) T o10 o24 F25 (PySem.W.mg_of X G a25) b25
  have F26 := fn_mk (x := "_law_is_pair_right") (st := s__law_is_pair_right) l26 c26 k26
  have b26 : Binds K (PySem.W.fnOf "_law_is_pair_right" "_law_is_pair_right" (defArgs s__law_is_pair_right) (defBody s__law_is_pair_right) (defScope s__law_is_pair_right) .none kV26 dc26 pm26 an26 cd26 ct26) ["one", "other"] [] := .all fun us hl => match us, hl with | [_, _], _ => rfl
  have o26 := ok__law_is_pair_right (P := P) (w := w) (base := base) T o19 o14 o23 o22 o15 F26 (PySem.W.mg_of X G a26) b26
  have F27 := fn_mk (x := "_law_right") (st := s__law_right) l27 c27 k27
  have b27 : Binds K (PySem.W.fnOf "_law_right" "_law_right" (defArgs s__law_right) (defBody s__law_right) (defScope s__law_right) .none kV27 dc27 pm27 an27 cd27 ct27) ["pot"] [] := .all fun us hl => match us, hl with | [_], _ => rfl
  have o27 := ok__law_right (P := P) (w := w) (base := base) T o21 o26 o20 o13 o8 o6 o25 F27 (PySem.W.mg_of X G a27) b27
  have F28 := fn_mk (x := "law") (st := s_law) l28 c28 k28
  have b28 : Binds K (PySem.W.fnOf "law" "law" (defArgs s_law) (defBody s_law) (defScope s_law) .none kV28 dc28 pm28 an28 cd28 ct28) ["script"] [] := .all fun us hl => match us, hl with | [_], _ => rfl
  have o28 := ok_law (P := P) (w := w) (base := base) T o7 o5 o27 F28 (PySem.W.mg_of X G a28) b28
  exact o28
end Ek

open PySem PySem.W PyProof.Rows in
set_option maxRecDepth 100000 in
set_option maxHeartbeats 0 in
theorem PySem.Challenge.cw_eithermended_k84_whole_long_rows_with_te_holds : PySem.Challenge.rw_eithermended_k84_whole_long_rows_with_te.Holds := by
  w_on; o_law; k_head; (case hw => w_witness2)
  k_fill
  refine Ek.walk_top (l := PySem.Challenge.rw_eithermended_k84_whole_long_rows_with_te) (k := 7) (A := Ek.A_law) rfl rfl ⟨rfl, by decide, by decide⟩ (fun w h Y => PySem.W.kIn_of Y) ?F ?A
  case A => exact fun ns hl _ => ⟨ns, rfl, by omega, rfl⟩
  case F =>
    intro w mg h KX G base _ _
    refine' Ek.all_mk KX G ?a0 ?l0 ?c0 ?k0 ?a1 ?l1 ?c1 ?k1 ?d1 ?a2 ?l2 ?c2 ?k2 ?a3 ?l3 ?c3 ?k3 ?a4 ?l4 ?c4 ?k4 ?a5 ?l5 ?c5 ?k5 ?a6 ?l6 ?c6 ?k6 ?a7 ?l7 ?c7 ?k7 ?a8 ?l8 ?c8 ?k8 ?a9 ?l9 ?c9 ?k9 ?a10 ?l10 ?c10 ?k10 ?a11 ?l11 ?c11 ?k11 ?a12 ?l12 ?c12 ?k12 ?a13 ?l13 ?c13 ?k13 ?a14 ?l14 ?c14 ?k14 ?a15 ?l15 ?c15 ?k15 ?a16 ?l16 ?c16 ?k16 ?a17 ?l17 ?c17 ?k17 ?a18 ?l18 ?c18 ?k18 ?a19 ?l19 ?c19 ?k19 ?a20 ?l20 ?c20 ?k20 ?a21 ?l21 ?c21 ?k21 ?a22 ?l22 ?c22 ?k22 ?a23 ?l23 ?c23 ?k23 ?a24 ?l24 ?c24 ?k24 ?a25 ?l25 ?c25 ?k25 ?a26 ?l26 ?c26 ?k26 ?a27 ?l27 ?c27 ?k27 ?a28 ?l28 ?c28 ?k28 ?g_CLASH ?g_KEEP ?g_MERGED ?g_MOST_PIECE ?g_MOST_ROW ?g_MOST_SIGNS ?g_SIGNS ?g_TURN ?z_abs ?z_all ?z_bool ?z_dict ?z_enumerate ?z_int ?z_isinstance ?z_len ?z_list ?z_max ?z_min ?z_range ?z_repr ?z_str ?z_sum ?z_tuple base
    (case a0 => k_is)
    (case l0 => k_is)
    (case c0 => k_is)
    (case k0 => k_is)
    (case a1 => k_is)
    (case l1 => k_is)
    (case c1 => k_is)
    (case k1 => k_is)
    (case d1 => k_is)
    (case a2 => k_is)
    (case l2 => k_is)
    (case c2 => k_is)
    (case k2 => k_is)
    (case a3 => k_is)
    (case l3 => k_is)
    (case c3 => k_is)
    (case k3 => k_is)
    (case a4 => k_is)
    (case l4 => k_is)
    (case c4 => k_is)
    (case k4 => k_is)
    (case a5 => k_is)
    (case l5 => k_is)
    (case c5 => k_is)
    (case k5 => k_is)
    (case a6 => k_is)
    (case l6 => k_is)
    (case c6 => k_is)
    (case k6 => k_is)
    (case a7 => k_is)
    (case l7 => k_is)
    (case c7 => k_is)
    (case k7 => k_is)
    (case a8 => k_is)
    (case l8 => k_is)
    (case c8 => k_is)
    (case k8 => k_is)
    (case a9 => k_is)
    (case l9 => k_is)
    (case c9 => k_is)
    (case k9 => k_is)
    (case a10 => k_is)
    (case l10 => k_is)
    (case c10 => k_is)
    (case k10 => k_is)
    (case a11 => k_is)
    (case l11 => k_is)
    (case c11 => k_is)
    (case k11 => k_is)
    (case a12 => k_is)
    (case l12 => k_is)
    (case c12 => k_is)
    (case k12 => k_is)
    (case a13 => k_is)
    (case l13 => k_is)
    (case c13 => k_is)
    (case k13 => k_is)
    (case a14 => k_is)
    (case l14 => k_is)
    (case c14 => k_is)
    (case k14 => k_is)
    (case a15 => k_is)
    (case l15 => k_is)
    (case c15 => k_is)
    (case k15 => k_is)
    (case a16 => k_is)
    (case l16 => k_is)
    (case c16 => k_is)
    (case k16 => k_is)
    (case a17 => k_is)
    (case l17 => k_is)
    (case c17 => k_is)
    (case k17 => k_is)
    (case a18 => k_is)
    (case l18 => k_is)
    (case c18 => k_is)
    (case k18 => k_is)
    (case a19 => k_is)
    (case l19 => k_is)
    (case c19 => k_is)
    (case k19 => k_is)
    (case a20 => k_is)
    (case l20 => k_is)
    (case c20 => k_is)
    (case k20 => k_is)
    (case a21 => k_is)
    (case l21 => k_is)
    (case c21 => k_is)
    (case k21 => k_is)
    (case a22 => k_is)
    (case l22 => k_is)
    (case c22 => k_is)
    (case k22 => k_is)
    (case a23 => k_is)
    (case l23 => k_is)
    (case c23 => k_is)
    (case k23 => k_is)
    (case a24 => k_is)
    (case l24 => k_is)
    (case c24 => k_is)
    (case k24 => k_is)
    (case a25 => k_is)
    (case l25 => k_is)
    (case c25 => k_is)
    (case k25 => k_is)
    (case a26 => k_is)
    (case l26 => k_is)
    (case c26 => k_is)
    (case k26 => k_is)
    (case a27 => k_is)
    (case l27 => k_is)
    (case c27 => k_is)
    (case k27 => k_is)
    (case a28 => k_is)
    (case l28 => k_is)
    (case c28 => k_is)
    (case k28 => k_is)
    (case g_CLASH => k_is)
    (case g_KEEP => k_is)
    (case g_MERGED => k_is)
    (case g_MOST_PIECE => k_is)
    (case g_MOST_ROW => k_is)
    (case g_MOST_SIGNS => k_is)
    (case g_SIGNS => k_is)
    (case g_TURN => k_is)
    (case z_abs => k_is)
    (case z_all => k_is)
    (case z_bool => k_is)
    (case z_dict => k_is)
    (case z_enumerate => k_is)
    (case z_int => k_is)
    (case z_isinstance => k_is)
    (case z_len => k_is)
    (case z_list => k_is)
    (case z_max => k_is)
    (case z_min => k_is)
    (case z_range => k_is)
    (case z_repr => k_is)
    (case z_str => k_is)
    (case z_sum => k_is)
    (case z_tuple => k_is)
#print axioms PySem.Challenge.cw_eithermended_k84_whole_long_rows_with_te_holds

