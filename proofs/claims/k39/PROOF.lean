import PyProof.Rows.All
import Wide.All
import OpenK.AllK
import Wide.FinOn
import KE.KStateDown
import Lean
import HandS.ForMost
import HandS.Exc
import HandS.TryOnly
import HandS.ExcOwn
import HandS.WordsExc
import HandS.Wide
import HandS.IsInst
import HandS.Evl
import HandS.SortInts
import HandS.Small
import HandS.Style
import PyProof.MaxThree
import HandS.Defaults
import HandS.Head0
import HandS.Head1
import HandS.Head2
import HandS.HeadEnd
import HandS.HeadHook1
import HandS.HeadHook2
import PyProof.ReprRoads
import HandS.Walk
import HandS.Star
import HandS.Conv
import HandS.Dict
import HandS.ListItems
import HandS.SortRule
import HandS.SetFor
import HandS.Strs
import HandS.Iter
import PyProof.LongRange
import HandS.ExcIs
import HandS.ExcField
import HandS.ExcValue
import KE.KExcIs
import HandS.ExcInit
import HandS.Property
import HandS.Remove
import HandS.HeadHook3
import KE.GoesEnum
import HandS.RaiseMore
import HandS.Deep
import PySem.Challenge.RW_backslots_k39_whole_moments_add_up
set_option Elab.async false
set_option linter.all false
set_option maxRecDepth 100000
set_option maxHeartbeats 4000000
namespace Bs
open PySem PySem.Spec PyProof.Rows L2
open Evl (Ex)

/-! ### a def without defaults -/
abbrev FnP (K : PySem.W.Frag) (x q : Str) (st : Stmt) (f : Addr) (fd : FuncData) : Prop := FunD K x q (defArgs st) (defBody st) (defScope st) [] [] f fd

/-! ### heaps that grow -/
theorem exn {H : Hp} {p : Addr} {o : HO} (h : H p = none) : Ex H (upd H p o) := Ex.new h
theorem dp_ex {K : PySem.W.Frag} {H H' : Hp} (e : Ex H H') : ∀ (d : PyData) (v : V), Dp K H v d → Dp K H' v d
  | .none, _, .non => .non
  | .bool _, _, .bl b => .bl b
  | .int _, _, .int i => .int i
  | .str _, _, .str x => .str x
  | .list ds, _, .lst h a => .lst (Evl.ex_l e h) (go ds _ a)
  | .tuple ds, _, .tup h a => .tup (Evl.ex_t e h) (go ds _ a)
where go : ∀ (ds : List PyData) (vs : List V), DpAll K H vs ds → DpAll K H' vs ds
  | [], _, .nil => .nil
  | d :: ds, _, .cons h r => .cons (dp_ex e d _ h) (go ds _ r)

/-! ### defs called where no repr is under way -/
abbrev Clean (A : Around) : Prop := A.guards = some []
/-- as FnOk, where no repr is under way -/
structure GOk (P : Program) (w : World) (K : PySem.W.Frag) (mg : Str → Option Value) (base : Heap)
    (C : CXT) (k : Nat) (f : Addr) (fd : FuncData) (ps : List Str) (sp : Sp) : Prop where
  arity : ∀ vs H Q E, sp vs H Q E → vs.length = ps.length
  go : ∀ (A : Around) (fr : List Env) (s : Shared) (H : Hp) (args : Args) (us : List Value) (vs : List V) (Q : VK) (E : XK),
    Room k A → Clean A → Env0 P w K mg base A fr s H → BindsTo s fd args (ps.zip us) → Vals vs us →
    sp vs H Q E → codeAny (model P w) A (.call (.ref f) args) (CR C fr P w H s Q E) s
section
variable {P : Program} {w : World} {K : PySem.W.Frag} {mg : Str → Option Value} {base : Heap} {C : CXT} {k j : Nat}
  {f : Addr} {fd : FuncData} {ps N : List Str} {sp sp' : Sp}
theorem GOk.up (F : GOk P w K mg base C j f fd ps sp) (h : j ≤ k) : GOk P w K mg base C k f fd ps sp :=
  ⟨F.arity, fun A fr s H args us vs Q E r => F.go A fr s H args us vs Q E (r.mono h)⟩
theorem GOk.weak (F : GOk P w K mg base C k f fd ps sp) (h : ∀ vs H Q E, sp' vs H Q E → sp vs H Q E) : GOk P w K mg base C k f fd ps sp' :=
  ⟨fun vs H Q E q => F.arity vs H Q E (h _ _ _ _ q), fun A fr s H args us vs Q E r g e b v q => F.go A fr s H args us vs Q E r g e b v (h _ _ _ _ q)⟩
/-- a def by its body, no repr under way -/
theorem gok_of {name qual : Str} {pr : Arguments} {body : List Stmt} {scope : Scope} {dV kV doc pm cdv ct oc : Value} {an od : Option Addr} {osl : Array (Option Value)}
    (lk : K.lookup f = some ⟨oc, od, .func (PySem.W.fnOf name qual pr body scope dV kV doc pm an cdv ct), osl⟩)
    (hcd : PySem.W.codeIn K cdv qual = true) (S : FnScope N ps scope)
    (ar : ∀ vs H Q E, sp vs H Q E → vs.length = ps.length)
    (hb : ∀ (A : Around) (fr : List Env) (s : Shared) (H : Hp) (vs : List V) (Q : VK) (E : XK),
      Room k (A.deeper (envOfC qual scope s.heap.objs.size f cdv)) → Clean A → sp vs H Q E →
      ∃ t, PSs (cxOf C P w K mg base N qual scope f cdv A fr s H E) body t ∧
        t { nx := fun _ H' => Q .non H', rt := Q } (start N vs) H) :
    GOk P w K mg base C (k + 1) f (PySem.W.fnOf name qual pr body scope dV kV doc pm an cdv ct) ps sp := by
  refine ⟨ar, ?_⟩
  intro A fr s H args us vs Q E hr hg e0 bd rv hsp
  have in0 : ∀ b o, base.get? b = some o → s.heap.get? b = some o := fun b o e => (e0.bs b o e).1
  have inK : K.In s.heap := e0.mod.kin.keeps in0
  refine codeAny_call_function hr.depth (inK _ _ lk) rfl S.co S.gen rfl (PySem.W.codeRec_of inK hcd) (bd _ _ _ _ ?_)
  have kinds : ∀ y ∈ ps.zip us, scope.names.lookup y.1 = some .local ∨
      (scope.names.lookup y.1 = some .cell ∧ ((cellsFrom (s.heap.objs.size + 1) scope.names []).lookup y.1).isSome = true) := by
    rintro ⟨n, v⟩ hy
    exact (S.par n (List.of_mem_zip hy).1).imp id fun q => ⟨q, PySem.W.cellsFrom_some _ _ _ (.inl q)⟩
  refine wpAny_newFunctionEnv_cells S.kind kinds ?_
  intro env he s1 x
  subst he
  refine ⟨(e0.mod.nolimit.keeps in0).keeps x.toInCall.keep, codeAny_func ?_⟩
  obtain ⟨t, ht, hq⟩ := hb A fr s H vs Q E (hr.deeper _) hg hsp
  have I0 := inv_start (CX := C) (E := E) S hr.hd e0 (ar _ _ _ _ hsp) rv x
  refine wpAny_mono (ht.run [] s1 (start N vs) H _ I0 hq) ?_ (fun _ _ z => z)
  intro fl s' z
  cases fl with
  | next => obtain ⟨_, H', J, q⟩ := z; exact ⟨.non, H', J.os, J.bare, J.base, J.hok, rfl, q⟩
  | ret u => obtain ⟨v, _, H', J, r, q⟩ := z; exact ⟨v, H', J.os, J.bare, J.base, J.hok, r, q⟩
  | brk => exact z.elim fun _ z => z.elim fun _ z => z.2.elim
  | cont => exact z.elim fun _ z => z.elim fun _ z => z.2.elim
theorem FunD.gok {x qual : Str} {pr : Arguments} {body : List Stmt} {scope : Scope} {dvs : List V} {kws : List (Str × V)}
    (F : FunD K x qual pr body scope dvs kws f fd) (S : FnScope N ps scope) (ar : ∀ vs H Q E, sp vs H Q E → vs.length = ps.length)
    (hb : ∀ (cdv : Value) (A : Around) (fr : List Env) (s : Shared) (H : Hp) (vs : List V) (Q : VK) (E : XK),
      Room k (A.deeper (envOfC qual scope s.heap.objs.size f cdv)) → Clean A → sp vs H Q E →
      ∃ t, PSs (cxOf C P w K mg base N qual scope f cdv A fr s H E) body t ∧
        t { nx := fun _ H' => Q .non H', rt := Q } (start N vs) H) :
    GOk P w K mg base C (k + 1) f fd ps sp := by
  obtain ⟨oc, od, dV, kV, doc, pm, an, cdv, ct, osl, rfl, lk, hcd, _, _⟩ := F.ex
  exact gok_of lk hcd S ar (hb cdv)
end
section
variable {X : Cx} {C : CXT} {k : Nat} {f Cl : Addr} {fd : FuncData} {ps : List Str} {sp : Sp} {dvs : List V} {ds : List Value} {E : XK}
  {x m : Str} {p pos apos : Pos} {e o : Expr} {es : List Expr} {ta : TE} {t : TA}
/-- the callee runs, no repr under way -/
theorem run_g {pins : List (Addr × Obj)} {σ : L2.St} {H : Hp} {s : Shared} {Q : VK} {us : List Value} {vs : List V}
    (F : GOk X.prog X.w X.K X.mg X.base C k f fd ps sp) (hr : Room k X.A) (hc : Clean X.A) (hb : Binds X.K fd ps ds) (hd : Vals dvs ds)
    (hx : Passes C X E) (I : Inv X pins σ H s) (r : Vals vs us) (h : sp (vs ++ dvs) H Q E) :
    wpAny (model X.prog X.w) X.A (call (.ref f) us) (EP X pins σ Q) X.xe s := by
  have rr := r.append hd
  have len : (us ++ ds).length = ps.length := rr.length ▸ F.arity _ _ _ _ h
  have one := F.go X.A X.stack s H ⟨us, []⟩ (us ++ ds) (vs ++ dvs) Q E hr hc I.env0 (hb s us I.kIn len) rr h
  refine wpAny_call (codeAny_mono one ?_)
  rintro (e | fl) s' z
  · exact hx pins σ H s e s' I z
  · cases fl with
    | ret u => exact I.after z
    | _ => exact z.elim
theorem pe_callG (F : GOk X.prog X.w X.K X.mg X.base C k f fd ps sp) (hr : Room k X.A) (hc : Clean X.A) (hg : Gl X x) (hm : X.mg x = some (.ref f))
    (hk : PySem.W.keepIn X.K (.ref f) = true) (hb : Binds X.K fd ps ds) (hd : Vals dvs ds) (hx : Passes C X E) (ha : PA X (e :: es) t)
    (hdb : (x == ("__debug__" : Str)) = false := by decide)
    (he : starEach (e :: es) X.env = (false, eval e X.env) :: starEach es X.env := by rfl)
    (hpl : (backTo pos (starEach es X.env)).any (·.1) = false := by rfl) :
    PE X (.Call (.Name x p) (e :: es) [] pos) (tCall sp dvs E t) :=
  ⟨fun pins s σ H Q I h => wpAny_Call_Name_kw (ld_glob I hg hm (PySem.W.callWith_K (h₀ := X.base) I.ok.mod.kin hk
    (thn (ha.run pos pins s σ H _ I h) fun _ _ ⟨_, _, I1, r, q⟩ => ⟨I1.kIn, run_g F hr hc hb hd hx I1 r q⟩) he hpl) hdb)⟩
theorem pe_callG0 (F : GOk X.prog X.w X.K X.mg X.base C k f fd ps sp) (hr : Room k X.A) (hc : Clean X.A) (hg : Gl X x) (hm : X.mg x = some (.ref f))
    (hk : PySem.W.keepIn X.K (.ref f) = true) (hb : Binds X.K fd ps ds) (hd : Vals dvs ds) (hx : Passes C X E)
    (hdb : (x == ("__debug__" : Str)) = false := by decide) : PE X (.Call (.Name x p) [] [] pos) (tCall sp dvs E tNil) :=
  ⟨fun pins s σ H Q I h => wpAny_Call_Name_kw (ld_glob I hg hm (PySem.W.callWith_K0 I.kIn hk (run_g (us := []) F hr hc hb hd hx I .nil h)) hdb)⟩
end

/-! ### data whose text is no matter -/
mutual
def fine : Nat → PyData → Bool
  | _, .none => true
  | _, .bool _ => true
  | _, .int i => decide (i.natAbs.log2 < 1900)
  | _, .str x => PyData.strOk x
  | n + 1, .list xs => fineAll n xs
  | n + 1, .tuple xs => fineAll n xs
  | 0, .list _ => false
  | 0, .tuple _ => false
  | _, .dict _ => false
def fineAll : Nat → List PyData → Bool
  | _, [] => true
  | n, x :: xs => fine n x && fineAll n xs
end
mutual
def sz : PyData → Nat
  | .none => 5
  | .bool _ => 5
  | .int _ => 2000
  | .str x => 10 * x.length + 2
  | .list xs => szAll xs + 3
  | .tuple xs => szAll xs + 3
  | .dict _ => 0
def szAll : List PyData → Nat
  | [] => 0
  | x :: xs => sz x + 2 + szAll xs
end
mutual
theorem fine_ok : ∀ (d : PyData) (n : Nat), fine n d = true → d.showable = true ∧ d.hasDict = false ∧ d.depth ≤ n ∧ d.shown.length ≤ sz d
  | .none, n, _ => ⟨rfl, rfl, Nat.zero_le _, by show Str.length (PyData.shown .none) ≤ 5; decide⟩
  | .bool b, n, _ => ⟨rfl, rfl, Nat.zero_le _, by cases b <;> (show Str.length (PyData.shown (.bool _)) ≤ 5; decide)⟩
  | .int i, n, h => by
    have h1 : i.natAbs.log2 < 1900 := by simpa only [fine, decide_eq_true_eq] using h
    refine ⟨by simp only [PyData.showable, decide_eq_true_eq]; omega, rfl, Nat.zero_le _, ?_⟩
    have h2 := int_text_length_le (k := 1900) (by decide) h1
    show (Str.ofString (toString i)).length ≤ 2000
    rw [PySem.ofString_length]
    omega
  | .str x, n, h => by
    have h1 : ∀ c ∈ x.cps.toList, c < 16 ^ 8 := by
      have h2 : x.cps.all (· < 0x110000) = true := by rw [fine] at h; exact h
      rw [← Array.all_toList, List.all_eq_true] at h2
      intro c hc
      have := of_decide_eq_true (h2 c hc)
      omega
    exact ⟨rfl, rfl, Nat.zero_le _, StrLaws.reprText_len x h1⟩
  | .list xs, n + 1, h => by
    obtain ⟨h1, h2, h3, h4⟩ := fineAll_ok xs n (by simpa only [fine] using h)
    refine ⟨by simpa only [PyData.showable] using h1, by simpa only [PyData.hasDict] using h2, by simp only [PyData.depth]; omega, ?_⟩
    have := listText_len_le (PyData.shownAll xs)
    simp only [PyData.shown, sz]
    omega
  | .tuple xs, n + 1, h => by
    obtain ⟨h1, h2, h3, h4⟩ := fineAll_ok xs n (by simpa only [fine] using h)
    refine ⟨by simpa only [PyData.showable] using h1, by simpa only [PyData.hasDict] using h2, by simp only [PyData.depth]; omega, ?_⟩
    have := tupleText_len_le (PyData.shownAll xs)
    simp only [PyData.shown, sz]
    omega
  | .list _, 0, h => by simp [fine] at h
  | .tuple _, 0, h => by simp [fine] at h
  | .dict _, n, h => by cases n <;> simp [fine] at h
theorem fineAll_ok : ∀ (xs : List PyData) (n : Nat), fineAll n xs = true → PyData.showableAll xs = true ∧ PyData.hasDictAll xs = false ∧ PyData.depthAll xs ≤ n ∧ ((PyData.shownAll xs).map (·.length)).sum + 2 * (PyData.shownAll xs).length ≤ szAll xs
  | [], n, _ => ⟨rfl, rfl, Nat.zero_le _, by simp [PyData.shownAll, szAll]⟩
  | x :: xs, n, h => by
    obtain ⟨ha, hb⟩ := Bool.and_eq_true_iff.mp (show (fine n x && fineAll n xs) = true by simpa only [fineAll] using h)
    obtain ⟨a1, a2, a3, a4⟩ := fine_ok x n ha
    obtain ⟨b1, b2, b3, b4⟩ := fineAll_ok xs n hb
    refine ⟨by simp only [PyData.showableAll, a1, b1, Bool.and_true], by simp only [PyData.hasDictAll, a2, b2, Bool.or_false], by simp only [PyData.depthAll]; omega, ?_⟩
    simp only [PyData.shownAll, szAll, List.map_cons, List.sum_cons, List.length_cons]
    omega
end
mutual
theorem fine_can : ∀ (d : PyData) (n : Nat), fine n d = true → d.canLay0 = true
  | .none, _, _ => rfl
  | .bool _, _, _ => rfl
  | .int _, _, _ => rfl
  | .str x, _, h => by rw [fine] at h; rw [PyData.canLay0]; exact h
  | .list xs, n + 1, h => by
    have := fineAll_can xs n (by simpa only [fine] using h)
    simpa only [PyData.canLay0] using this
  | .tuple xs, n + 1, h => by
    have := fineAll_can xs n (by simpa only [fine] using h)
    simpa only [PyData.canLay0] using this
  | .list _, 0, h => by simp [fine] at h
  | .tuple _, 0, h => by simp [fine] at h
  | .dict _, n, h => by cases n <;> simp [fine] at h
theorem fineAll_can : ∀ (xs : List PyData) (n : Nat), fineAll n xs = true → PyData.canLayAll0 xs = true
  | [], _, _ => rfl
  | x :: xs, n, h => by
    obtain ⟨ha, hb⟩ := Bool.and_eq_true_iff.mp (show (fine n x && fineAll n xs) = true by simpa only [fineAll] using h)
    simp only [PyData.canLayAll0, fine_can x n ha, fineAll_can xs n hb, Bool.and_self]
end
theorem fine_shaped {d : PyData} (h : fine 20 d = true) : SeqAt.shaped d = true := by
  unfold SeqAt.shaped
  rw [fine_can d 20 h, Bool.true_and, decide_eq_true_eq]
  have := (fine_ok d 20 h).2.2.1
  omega
/-! no bool in it -/
mutual
def nb : PyData → Bool
  | .bool _ => false
  | .dict _ => false
  | .list xs => nbAll xs
  | .tuple xs => nbAll xs
  | _ => true
def nbAll : List PyData → Bool
  | [] => true
  | x :: xs => nb x && nbAll xs
end
mutual
theorem eqv_nb : ∀ (d e : PyData), nb d = true → nb e = true → PyData.eqv d e = true → d = e
  | .none, .none, _, _, _ => rfl
  | .int i, .int j, _, _, h => by rw [PyData.eqv, beq_iff_eq] at h; rw [h]
  | .str x, .str y, _, _, h => by rw [PyData.eqv, beq_iff_eq] at h; rw [h]
  | .list xs, .list ys, h1, h2, h => by rw [eqvAll_nb xs ys (by simpa only [nb] using h1) (by simpa only [nb] using h2) (by simpa only [PyData.eqv] using h)]
  | .tuple xs, .tuple ys, h1, h2, h => by rw [eqvAll_nb xs ys (by simpa only [nb] using h1) (by simpa only [nb] using h2) (by simpa only [PyData.eqv] using h)]
  | .bool _, _, h1, _, _ => by simp [nb] at h1
  | .dict _, _, h1, _, _ => by simp [nb] at h1
  | .none, .bool _, _, _, h => by simp [PyData.eqv] at h
  | .none, .int _, _, _, h => by simp [PyData.eqv] at h
  | .none, .str _, _, _, h => by simp [PyData.eqv] at h
  | .none, .list _, _, _, h => by simp [PyData.eqv] at h
  | .none, .tuple _, _, _, h => by simp [PyData.eqv] at h
  | .none, .dict _, _, _, h => by simp [PyData.eqv] at h
  | .int _, .none, _, _, h => by simp [PyData.eqv] at h
  | .int _, .bool _, _, h2, _ => by simp [nb] at h2
  | .int _, .str _, _, _, h => by simp [PyData.eqv] at h
  | .int _, .list _, _, _, h => by simp [PyData.eqv] at h
  | .int _, .tuple _, _, _, h => by simp [PyData.eqv] at h
  | .int _, .dict _, _, _, h => by simp [PyData.eqv] at h
  | .str _, .none, _, _, h => by simp [PyData.eqv] at h
  | .str _, .bool _, _, _, h => by simp [PyData.eqv] at h
  | .str _, .int _, _, _, h => by simp [PyData.eqv] at h
  | .str _, .list _, _, _, h => by simp [PyData.eqv] at h
  | .str _, .tuple _, _, _, h => by simp [PyData.eqv] at h
  | .str _, .dict _, _, _, h => by simp [PyData.eqv] at h
  | .list _, .none, _, _, h => by simp [PyData.eqv] at h
  | .list _, .bool _, _, _, h => by simp [PyData.eqv] at h
  | .list _, .int _, _, _, h => by simp [PyData.eqv] at h
  | .list _, .str _, _, _, h => by simp [PyData.eqv] at h
  | .list _, .tuple _, _, _, h => by simp [PyData.eqv] at h
  | .list _, .dict _, _, _, h => by simp [PyData.eqv] at h
  | .tuple _, .none, _, _, h => by simp [PyData.eqv] at h
  | .tuple _, .bool _, _, _, h => by simp [PyData.eqv] at h
  | .tuple _, .int _, _, _, h => by simp [PyData.eqv] at h
  | .tuple _, .str _, _, _, h => by simp [PyData.eqv] at h
  | .tuple _, .list _, _, _, h => by simp [PyData.eqv] at h
  | .tuple _, .dict _, _, _, h => by simp [PyData.eqv] at h
theorem eqvAll_nb : ∀ (xs ys : List PyData), nbAll xs = true → nbAll ys = true → PyData.eqvAll xs ys = true → xs = ys
  | [], [], _, _, _ => rfl
  | [], _ :: _, _, _, h => by simp [PyData.eqvAll] at h
  | _ :: _, [], _, _, h => by simp [PyData.eqvAll] at h
  | x :: xs, y :: ys, h1, h2, h => by
    obtain ⟨a1, a2⟩ := Bool.and_eq_true_iff.mp (show (nb x && nbAll xs) = true by simpa only [nbAll] using h1)
    obtain ⟨b1, b2⟩ := Bool.and_eq_true_iff.mp (show (nb y && nbAll ys) = true by simpa only [nbAll] using h2)
    obtain ⟨c1, c2⟩ := Bool.and_eq_true_iff.mp (show (PyData.eqv x y && PyData.eqvAll xs ys) = true by simpa only [PyData.eqvAll] using h)
    rw [eqv_nb x y a1 b1 c1, eqvAll_nb xs ys a2 b2 c2]
end
theorem eqv_ne {d e : PyData} (h1 : nb d = true) (h2 : nb e = true) (h : d ≠ e) : PyData.eqv d e = false := by
  cases q : PyData.eqv d e with
  | false => rfl
  | true => exact absurd (eqv_nb d e h1 h2 q) h
theorem eqv_same {d : PyData} (h : fine 20 d = true) : PyData.eqv d d = true := SeqAt.eqv_refl _ (fine_can d 20 h)
theorem nbAll_ints : ∀ {ns : List Int}, nbAll (ns.map PyData.int) = true
  | [] => rfl
  | _ :: ns => by
    have := nbAll_ints (ns := ns)
    simp only [List.map_cons, nbAll, nb, this, Bool.and_self]
theorem fineAll_ints {n : Nat} : ∀ {ns : List Int}, (∀ i ∈ ns, i.natAbs.log2 < 1900) → fineAll n (ns.map PyData.int) = true
  | [], _ => by simp only [List.map_nil, fineAll]
  | i :: ns, h => by
    have h1 := h i List.mem_cons_self
    have h2 := fineAll_ints (n := n) (ns := ns) fun j hj => h j (List.mem_cons_of_mem _ hj)
    simp only [List.map_cons, fineAll, fine, h2, Bool.and_true, decide_eq_true_eq]
    exact h1
theorem szAll_ints : ∀ {ns : List Int}, szAll (ns.map PyData.int) = 2002 * ns.length
  | [] => by simp [szAll]
  | i :: ns => by
    have := szAll_ints (ns := ns)
    simp only [List.map_cons, szAll, sz, List.length_cons]
    omega

/-! ### rules -/
section
variable {X : Cx}
/-- a great number: a bound that no number here comes to -/
def BIG : Int := 2 ^ 100000
theorem big_200 : (10 : Int) ^ 200 ≤ BIG := by
  unfold BIG
  exact Int.le_trans (by decide : (10 : Int) ^ 200 ≤ 2 ^ 700) (Int.ofNat_le.mpr (Nat.pow_le_pow_right (by decide) (by decide : 700 ≤ 100000)))
theorem big_log {i : Int} (h : -BIG < i) (h2 : i < BIG) : i.natAbs.log2 < 100000 := by
  have e : i.natAbs < 2 ^ 100000 := by
    unfold BIG at h h2
    generalize hn : (2 : Nat) ^ 100000 = n at *
    have e : ((2 : Int) ^ 100000) = (n : Int) := by rw [← hn, Int.natCast_pow] <;> rfl
    rw [e] at h h2
    omega
  exact PySem.Flt.log2_lt_of (by decide) e
def CMulB (i j : Int) : Prop := (-BIG < i ∧ i < BIG) ∧ (-BIG < j ∧ j < BIG)
def CDivB (_ j : Int) : Prop := 0 < j ∧ j ≤ 10 ^ 200
theorem op_mulB : OpR X (binaryOp .Mult) (rI CMulB fun i j => .int (i * j)) := opI fun i j _ _ _ _ _ hc q => by
  refine mul_int q (CMulW.ok ?_)
  have h1 := big_log hc.1.1 hc.1.2
  have h2 := big_log hc.2.1 hc.2.2
  unfold CMulW
  omega
theorem iop_mulB : OpR X (inplaceOp .Mult) (rI CMulB fun i j => .int (i * j)) := opI fun i j _ _ _ _ _ hc q => by
  refine imul_int q (CMulW.ok ?_)
  have h1 := big_log hc.1.1 hc.1.2
  have h2 := big_log hc.2.1 hc.2.2
  unfold CMulW
  omega
theorem op_divB : OpR X (binaryOp .FloorDiv) (rI CDivB fun i j => .int (i / j)) := opI fun i j _ _ _ _ _ hc q => by
  obtain ⟨h1, h2⟩ := hc
  have e : j.natAbs < 2 ^ 700 := by
    have : (10 : Int) ^ 200 < 2 ^ 700 := by decide
    generalize hn : (2 : Nat) ^ 700 = n at *
    have e : ((2 : Int) ^ 700) = (n : Int) := by rw [← hn, Int.natCast_pow] <;> rfl
    rw [e] at this
    omega
  exact floordiv_int (by omega) (by rw [Int.fdiv_eq_ediv_of_nonneg i (by omega)]; exact q) (.inl (PyProof.noPylong_of_log2 (Nat.lt_trans (PySem.Flt.log2_lt_of (by decide) e) (by decide))))
/-- a power of a great int -/
def CPowW (i j : Int) : Prop := 0 ≤ j ∧ j ≤ 100 ∧ -BIG < i ∧ i < BIG
theorem op_powB : OpR X (binaryOp .Pow) (rI CPowW fun i j => .int (i ^ j.toNat)) := opI fun i j _ _ _ _ _ hc q => by
  obtain ⟨h1, h2, h3, h4⟩ := hc
  refine pow_int h1 ?_ q
  have b : Builtin.Int.intBits i ≤ 100000 := by
    unfold Builtin.Int.intBits
    split
    · omega
    · have := big_log h3 h4
      omega
  have b2 : ((Builtin.Int.intBits i : Nat) : Int) ≤ 100000 := by omega
  calc ((Builtin.Int.intBits i : Nat) : Int) * j ≤ 100000 * j := Int.mul_le_mul_of_nonneg_right b2 h1
    _ ≤ 100000 * 100 := Int.mul_le_mul_of_nonneg_left h2 (by decide)
    _ ≤ 2 ^ 27 := by decide
/-- a power of a small int -/
def CPowC (i j : Int) : Prop := 0 ≤ j ∧ j ≤ 1000 ∧ -(10 ^ 18) < i ∧ i < 10 ^ 18
theorem op_powC : OpR X (binaryOp .Pow) (rI CPowC fun i j => .int (i ^ j.toNat)) := opI fun i j _ _ _ _ _ hc q => pow_int_small hc.1 (by have := hc.2.1; omega) (by have h1 := hc.2.2.1; have h2 := hc.2.2.2; omega) q
/-- a number whose text is no matter -/
def MED : Int := 2 ^ 1900
theorem med_200 : (10 : Int) ^ 200 ≤ MED := by
  unfold MED
  exact Int.le_trans (by decide : (10 : Int) ^ 200 ≤ 2 ^ 700) (Int.ofNat_le.mpr (Nat.pow_le_pow_right (by decide) (by decide : 700 ≤ 1900)))
theorem med_log {i : Int} (h : -MED < i) (h2 : i < MED) : i.natAbs.log2 < 1900 := by
  have e : i.natAbs < 2 ^ 1900 := by
    unfold MED at h h2
    generalize hn : (2 : Nat) ^ 1900 = n at *
    have e : ((2 : Int) ^ 1900) = (n : Int) := by rw [← hn, Int.natCast_pow] <;> rfl
    rw [e] at h h2
    omega
  exact PySem.Flt.log2_lt_of (by decide) e
def rReprI : List V → Hp → VK → Prop := fun xs H Q => ∃ i, xs = [.int i] ∧ (-MED < i ∧ i < MED) ∧ Q (.str (toString i)) H
theorem call_repr_I : CallR X (.builtin "repr") rReprI := by
  intro pins s σ H xs us Q I r h
  obtain ⟨i, rfl, hb, q⟩ := h
  cases r with
  | cons r0 r1 =>
  cases r1
  obtain ⟨t, rfl⟩ := r0
  exact P.repr_of_int (Nat.lt_trans (med_log hb.1 hb.2) (by decide)) ⟨.str _, H, I.tok _, ⟨_, rfl⟩, q⟩
theorem call_str_I : CallR X (.type "str") rReprI := fun pins s σ H xs us Q I r h => call_str_int pins s σ H xs us Q I r (by
  obtain ⟨i, e, hb, q⟩ := h
  exact ⟨i, e, Nat.lt_trans (med_log hb.1 hb.2) (by decide), q⟩)
theorem call_intI : CallR X (.type "int") (fun xs H Q => ∃ i, xs = [.int i] ∧ Q (.int i) H) := fun pins s σ H xs us Q I r h => call_int1 pins s σ H xs us Q I r (.inl h)
/-- a tracked list's, a tracked tuple's item -/
def rIxLT : R2 := fun x y H Q => ∃ p xs i v, x = .ref p ∧ y = .int i ∧ H p = some (.lst xs) ∧ atI xs i = some v ∧ Q v H
def rIxTT : R2 := fun x y H Q => ∃ p xs i v, x = .ref p ∧ y = .int i ∧ H p = some (.tup xs) ∧ atI xs i = some v ∧ Q v H
theorem ix_listT : IxR X rIxLT := fun e1 e2 pins s σ H x y u v Q I rx ry h hs => ix_list e1 e2 pins s σ H x y u v Q I rx ry (by
  obtain ⟨p, xs, i, v, h1, h2, h3, h4, q⟩ := h
  exact ⟨p, xs, i, v, h1, h2, SqL.of h3, h4, q⟩) hs
theorem ix_tupT : IxR X rIxTT := fun e1 e2 pins s σ H x y u v Q I rx ry h hs => ix_tup e1 e2 pins s σ H x y u v Q I rx ry (by
  obtain ⟨p, xs, i, v, h1, h2, h3, h4, q⟩ := h
  exact ⟨p, xs, i, v, h1, h2, SqT.of h3, h4, q⟩) hs
/-- repr of data, no repr under way -/
def rReprD (K : PySem.W.Frag) : List V → Hp → VK → Prop := fun xs H Q =>
  ∃ v d, xs = [v] ∧ Dp K H v d ∧ fine 20 d = true ∧ sz d ≤ 16000000 ∧ Q (.str d.shown) H
/-- a < b < c < d -/
def tChain3 (r r' r'' : R2) (ta tb tc td : TE) : TE := fun σ H Q => ta σ H fun x H1 => tb σ H1 fun y H2 => r x y H2 fun z H3 => ∃ k, z = .bl k ∧
  (if k = true then tc σ H3 fun u H4 => r' y u H4 fun z' H5 => ∃ k', z' = .bl k' ∧ (if k' = true then td σ H5 fun t H6 => r'' u t H6 Q else Q (.bl false) H5) else Q (.bl false) H3)
section
variable {o1 o2 o3 : CmpOp} {q1 q2 q3 : R2} {a b c d : Expr} {ta tb tc td : TE} {pos : Pos}
theorem pe_chain3 (h1 : OpR X (compareOp o1) q1) (h2 : OpR X (compareOp o2) q2) (h3 : OpR X (compareOp o3) q3)
    (ha : PE X a ta) (hb : PE X b tb) (hc : PE X c tc) (hd : PE X d td)
    (hm : lastMarks [o1, o2, o3] [b, c, d] = false := by with_unfolding_all rfl) :
    PE X (.Compare a [o1, o2, o3] [b, c, d] pos) (tChain3 q1 q2 q3 ta tb tc td) := by
  refine ⟨fun pins s σ H Q I h => Compare_chain ?_ hm⟩
  refine thn (ha.run pins s σ H _ I h) ?_
  rintro v s1 ⟨x, H1, I1, rx, g1⟩
  refine chain_link (thn (hb.run pins s1 σ H1 _ I1 g1) ?_)
  rintro u s2 ⟨y, H2, I2, ry, g2⟩
  refine thn (h1 pins s2 σ H2 x y v u _ I2 rx ry g2) ?_
  rintro w s3 ⟨z, H3, I3, rz, k, ez, g3⟩
  subst ez
  cases rz
  refine wpAny_truthy_bool ?_
  cases k with
  | false => exact ite_ff ⟨.bl false, H3, I3, rfl, g3⟩
  | true =>
    refine ite_tt (chain_link (thn (hc.run pins s3 σ H3 _ I3 g3) ?_))
    rintro u' s4 ⟨y', H4, I4, ry', g4⟩
    refine thn (h2 pins s4 σ H4 y y' u u' _ I4 ry ry' g4) ?_
    rintro w' s5 ⟨z', H5, I5, rz', k', ez', g5⟩
    subst ez'
    cases rz'
    refine wpAny_truthy_bool ?_
    cases k' with
    | false => exact ite_ff ⟨.bl false, H5, I5, rfl, g5⟩
    | true =>
      refine ite_tt (chain_last (thn (hd.run pins s5 σ H5 _ I5 g5) ?_))
      rintro u2 s6 ⟨y2, H6, I6, ry2, g6⟩
      exact h3 pins s6 σ H6 y' y2 u' u2 Q I6 ry' ry2 g6
theorem pt_chain3 (h1 : OpR X (compareOp o1) q1) (h2 : OpR X (compareOp o2) q2) (h3 : OpR X (compareOp o3) q3)
    (ha : PE X a ta) (hb : PE X b tb) (hc : PE X c tc) (hd : PE X d td)
    (hm : lastMarks [o1, o2, o3] [b, c, d] = false := by with_unfolding_all rfl) :
    PT X (.Compare a [o1, o2, o3] [b, c, d] pos) (tTest (tChain3 q1 q2 q3 ta tb tc td)) := by
  refine ⟨fun pins s σ H Q I h => isTrue_chain ?_ hm⟩
  refine thn (ha.run pins s σ H _ I h) ?_
  rintro v s1 ⟨x, H1, I1, rx, g1⟩
  refine test_link (thn (hb.run pins s1 σ H1 _ I1 g1) ?_)
  rintro u s2 ⟨y, H2, I2, ry, g2⟩
  refine thn (h1 pins s2 σ H2 x y v u _ I2 rx ry g2) ?_
  rintro w s3 ⟨z, H3, I3, rz, k, ez, g3⟩
  subst ez
  cases rz
  refine wpAny_truthy_bool ?_
  cases k with
  | false =>
    obtain ⟨b, eb, g⟩ := g3
    cases eb
    exact ite_ff ⟨H3, I3, g⟩
  | true =>
    refine ite_tt (test_link (thn (hc.run pins s3 σ H3 _ I3 g3) ?_))
    rintro u' s4 ⟨y', H4, I4, ry', g4⟩
    refine thn (h2 pins s4 σ H4 y y' u u' _ I4 ry ry' g4) ?_
    rintro w' s5 ⟨z', H5, I5, rz', k', ez', g5⟩
    subst ez'
    cases rz'
    refine wpAny_truthy_bool ?_
    cases k' with
    | false =>
      obtain ⟨b, eb, g⟩ := g5
      cases eb
      exact ite_ff ⟨H5, I5, g⟩
    | true =>
      refine ite_tt (test_last (thn (hd.run pins s5 σ H5 _ I5 g5) ?_))
      rintro u2 s6 ⟨y2, H6, I6, ry2, g6⟩
      refine thn (h3 pins s6 σ H6 y' y2 u' u2 _ I6 ry' ry2 g6) ?_
      rintro w2 s7 ⟨z2, H7, I7, rz2, k2, ez2, g7⟩
      subst ez2
      cases rz2
      exact wpAny_truthy_bool ⟨H7, I7, g7⟩
end
theorem call_intB : CallR X (.type "int") (fun xs H Q => ∃ k, xs = [.bl k] ∧ Q (.int (if k then 1 else 0)) H) := fun pins s σ H xs us Q I r h => call_int1 pins s σ H xs us Q I r (.inr h)
def rMin3 : List V → Hp → VK → Prop := fun xs H Q => ∃ i j k, xs = [.int i, .int j, .int k] ∧ Q (.int (min (min i j) k)) H
def rMax3 : List V → Hp → VK → Prop := fun xs H Q => ∃ i j k, xs = [.int i, .int j, .int k] ∧ Q (.int (max (max i j) k)) H
theorem vals3 {x y z : V} {us : List Value} (r : Vals [x, y, z] us) : ∃ u v w, us = [u, v, w] ∧ RelV x u ∧ RelV y v ∧ RelV z w := by
  cases r with
  | cons a r => cases r with
    | cons b r => cases r with
      | cons c r => cases r; exact ⟨_, _, _, rfl, a, b, c⟩
theorem call_min3 (hc : X.calm = true) : CallR X (.builtin "min") rMin3 := by
  intro pins s σ H xs us Q I r h
  obtain ⟨i, j, k, rfl, q⟩ := h
  obtain ⟨u, v, w, rfl, ⟨t, rfl⟩, ⟨t', rfl⟩, ⟨t2, rfl⟩⟩ := vals3 r
  refine PySem.min_three_ints (I.ok.hd hc) fun h' tk kk => ⟨.int (min (min i j) k), H, I.kept kk, ?_, q⟩
  split
  · split
    · exact ⟨_, by rw [show min (min i j) k = k by omega]⟩
    · exact ⟨_, by rw [show min (min i j) k = j by omega]⟩
  · split
    · exact ⟨_, by rw [show min (min i j) k = k by omega]⟩
    · exact ⟨_, by rw [show min (min i j) k = i by omega]⟩
theorem call_max3 (hc : X.calm = true) : CallR X (.builtin "max") rMax3 := by
  intro pins s σ H xs us Q I r h
  obtain ⟨i, j, k, rfl, q⟩ := h
  obtain ⟨u, v, w, rfl, ⟨t, rfl⟩, ⟨t', rfl⟩, ⟨t2, rfl⟩⟩ := vals3 r
  refine PySem.max_three_ints (I.ok.hd hc) fun h' tk kk => ⟨.int (max (max i j) k), H, I.kept kk, ?_, q⟩
  split
  · split
    · exact ⟨_, by rw [show max (max i j) k = k by omega]⟩
    · exact ⟨_, by rw [show max (max i j) k = j by omega]⟩
  · split
    · exact ⟨_, by rw [show max (max i j) k = k by omega]⟩
    · exact ⟨_, by rw [show max (max i j) k = i by omega]⟩
def rLenQ (K : PySem.W.Frag) : List V → Hp → VK → Prop := fun xs H Q => ∃ p ys, xs = [.ref p] ∧ (SqL K H p ys ∨ SqT K H p ys) ∧ Q (.int ys.length) H
theorem call_lenQ : CallR X (.builtin "len") (rLenQ X.K) := call_len_seq
/-- == and != of data -/
def rEqF (K : PySem.W.Frag) : R2 := fun x y H Q => ∃ d e, Dp K H x d ∧ Dp K H y e ∧ fine 20 d = true ∧ fine 20 e = true ∧ Q (.bl (PyData.eqv d e)) H
def rNeF (K : PySem.W.Frag) : R2 := fun x y H Q => ∃ d e, Dp K H x d ∧ Dp K H y e ∧ fine 20 d = true ∧ fine 20 e = true ∧ Q (.bl (!PyData.eqv d e)) H
theorem op_eqF {k : Nat} (hr : Room k X.A) : OpR X (compareOp .Eq) (rEqF X.K) := fun pins s σ H x y v u Q I rx ry h => op_eqD hr.units pins s σ H x y v u Q I rx ry (by
  obtain ⟨d, e, h1, h2, h3, h4, q⟩ := h
  exact ⟨d, e, h1, h2, fine_shaped h3, fine_shaped h4, q⟩)
theorem op_neF {k : Nat} (hr : Room k X.A) : OpR X (compareOp .NotEq) (rNeF X.K) := fun pins s σ H x y v u Q I rx ry h => op_neD hr.units pins s σ H x y v u Q I rx ry (by
  obtain ⟨d, e, h1, h2, h3, h4, q⟩ := h
  exact ⟨d, e, h1, h2, fine_shaped h3, fine_shaped h4, q⟩)
theorem call_repr_D {k : Nat} (hr : Room k X.A) (hc : Clean X.A) : CallR X (.builtin "repr") (rReprD X.K) := by
  intro pins s σ H xs us Q I r h
  obtain ⟨v, d, rfl, hd, hf, hs, q⟩ := h
  obtain ⟨h1, h2, h3, hz0⟩ := fine_ok d 20 hf
  have hz : d.shown.length ≤ sizeLine := by rw [sizeLine_eq]; omega
  cases r with
  | cons r0 r1 =>
  cases r1
  rename_i u
  have hu := hr.units
  obtain ⟨as, rd⟩ := Dp.reads I d v u hd r0
  cases hd with
  | non => cases r0; exact P.repr_of_none ⟨.str _, H, I.tok _, ⟨_, rfl⟩, q⟩
  | bl b =>
    cases r0
    refine P.repr_of_bool ⟨.str _, H, I.tok _, ⟨_, rfl⟩, ?_⟩
    cases b <;> exact q
  | int i =>
    obtain ⟨t, rfl⟩ := r0
    exact P.repr_of_int (by simpa only [PyData.showable, decide_eq_true_eq] using h1) ⟨.str _, H, I.tok _, ⟨_, rfl⟩, q⟩
  | str x =>
    obtain ⟨t, rfl⟩ := r0
    exact P.repr_of_str ⟨.str _, H, I.tok _, ⟨_, rfl⟩, q⟩ hz
  | lst _ _ =>
    cases r0
    exact repr_of_reads' rd h1 (fun z => by rw [h2] at z; cases z) hc (by omega) (fun _ _ z => z) (fun h' u tk kk => ⟨.str _, H, I.kept kk, ⟨_, rfl⟩, q⟩) hz
  | tup _ _ =>
    cases r0
    exact repr_of_reads' rd h1 (fun z => by rw [h2] at z; cases z) hc (by omega) (fun _ _ z => z) (fun h' u tk kk => ⟨.str _, H, I.kept kk, ⟨_, rfl⟩, q⟩) hz
end

/-- (a, b, ..) = a tracked tuple of that length -/
def gTupT (n : Nat) (t : TGs) : TG := fun v σ H Q => ∃ a xs, v = .ref a ∧ H a = some (.tup xs) ∧ xs.length = n ∧ t xs σ H Q
theorem pg_tupT {X : Cx} {pos : Pos} {es : List Expr} {k : Nat} {t : TGs} {n : Nat} (hc : X.calm = true) (h : PGs X es t)
    (hn : (assignEach es X.env).length = n := by rfl) (hst : (assignEach es X.env).findIdx? (·.1) = none := by rfl) : PG X (.Tuple es k pos) (gTupT n t) :=
  ⟨fun pins s σ H v u Q I r hw => (pg_tup hc h hn hst).run pins s σ H v u Q I r (by
    obtain ⟨a, xs, e1, hq, hl, z⟩ := hw
    exact ⟨a, xs, e1, SqT.of hq, hl, z⟩)⟩

/-! ### promises by the number of arguments -/
def sp0 (F : Hp → VK → XK → Prop) : Sp := fun vs H Q E => vs = [] ∧ F H Q E
def sp1 (F : V → Hp → VK → XK → Prop) : Sp := fun vs H Q E => ∃ a, vs = [a] ∧ F a H Q E
def sp2 (F : V → V → Hp → VK → XK → Prop) : Sp := fun vs H Q E => ∃ a b, vs = [a, b] ∧ F a b H Q E
def sp3 (F : V → V → V → Hp → VK → XK → Prop) : Sp := fun vs H Q E => ∃ a b c, vs = [a, b, c] ∧ F a b c H Q E
def sp4 (F : V → V → V → V → Hp → VK → XK → Prop) : Sp := fun vs H Q E => ∃ a b c d, vs = [a, b, c, d] ∧ F a b c d H Q E
def sp5 (F : V → V → V → V → V → Hp → VK → XK → Prop) : Sp := fun vs H Q E => ∃ a b c d e, vs = [a, b, c, d, e] ∧ F a b c d e H Q E
theorem ar0 {F vs H Q E} (h : sp0 F vs H Q E) : vs.length = 0 := by obtain ⟨rfl, _⟩ := h; rfl
theorem ar1 {F vs H Q E} (h : sp1 F vs H Q E) : vs.length = 1 := by obtain ⟨_, rfl, _⟩ := h; rfl
theorem ar2 {F vs H Q E} (h : sp2 F vs H Q E) : vs.length = 2 := by obtain ⟨_, _, rfl, _⟩ := h; rfl
theorem ar3 {F vs H Q E} (h : sp3 F vs H Q E) : vs.length = 3 := by obtain ⟨_, _, _, rfl, _⟩ := h; rfl
theorem ar4 {F vs H Q E} (h : sp4 F vs H Q E) : vs.length = 4 := by obtain ⟨_, _, _, _, rfl, _⟩ := h; rfl
theorem ar5 {F vs H Q E} (h : sp5 F vs H Q E) : vs.length = 5 := by obtain ⟨_, _, _, _, _, rfl, _⟩ := h; rfl

/-! ### what is kept but for one object -/
def Mo (r : Addr) (H H' : Hp) : Prop := ∀ b o, b ≠ r → H b = some o → H' b = some o
theorem Mo.refl (r : Addr) (H : Hp) : Mo r H H := fun _ _ _ h => h
theorem Mo.trans {r : Addr} {H H1 H2 : Hp} (a : Mo r H H1) (b : Mo r H1 H2) : Mo r H H2 := fun c o n h => b c o n (a c o n h)
theorem Mo.ex {r : Addr} {H H1 : Hp} (e : Ex H H1) : Mo r H H1 := fun c o _ h => e c o h
theorem Mo.upd {r : Addr} {H : Hp} {o : HO} : Mo r H (upd H r o) := fun c u n h => by rw [upd_ne n]; exact h
theorem Ex.to_mo {r : Addr} {H H1 H2 : Hp} (e : Ex H H1) (m : Mo r H1 H2) : Mo r H H2 := fun c o n h => m c o n (e c o h)
/-- a new object that is written stays new to what stood before -/
theorem Mo.ex_new {r : Addr} {H H1 H2 : Hp} (e : Ex H H1) (n : H r = none) (m : Mo r H1 H2) : Ex H H2 := fun c o h => m c o (ne_of_none h n) (e c o h)
theorem sq_l {K : PySem.W.Frag} {H : Hp} {a : Addr} {xs : List V} (h : H a = some (.lst xs)) : SqL K H a xs := .inl (.inl h)
theorem sq_t {K : PySem.W.Frag} {H : Hp} {a : Addr} {xs : List V} (h : H a = some (.tup xs)) : SqT K H a xs := .inl (.inl h)

/-! ### new data: what is at addresses of S alone -/
mutual
inductive Rp (H : Hp) (S : Addr → Prop) : V → PyData → Prop where
  | non : Rp H S .non .none
  | bl (b : Bool) : Rp H S (.bl b) (.bool b)
  | int (i : Int) : Rp H S (.int i) (.int i)
  | str (x : Str) : Rp H S (.str x) (.str x)
  | lst {a : Addr} {xs : List V} {ds : List PyData} : S a → H a = some (.lst xs) → RpA H S xs ds → Rp H S (.ref a) (.list ds)
  | tup {a : Addr} {xs : List V} {ds : List PyData} : S a → H a = some (.tup xs) → RpA H S xs ds → Rp H S (.ref a) (.tuple ds)
inductive RpA (H : Hp) (S : Addr → Prop) : List V → List PyData → Prop where
  | nil : RpA H S [] []
  | cons {v : V} {vs : List V} {d : PyData} {ds : List PyData} : Rp H S v d → RpA H S vs ds → RpA H S (v :: vs) (d :: ds)
end
section
variable {H H' : Hp} {S S' : Addr → Prop} {K : PySem.W.Frag}
mutual
theorem Rp.keep (k : ∀ b o, S b → H b = some o → H' b = some o) (s : ∀ b, S b → S' b) : ∀ {d : PyData} {v : V}, Rp H S v d → Rp H' S' v d
  | .none, _, .non => .non
  | .bool _, _, .bl b => .bl b
  | .int _, _, .int i => .int i
  | .str _, _, .str x => .str x
  | .list _, _, .lst m h r => .lst (s _ m) (k _ _ m h) (RpA.keep k s r)
  | .tuple _, _, .tup m h r => .tup (s _ m) (k _ _ m h) (RpA.keep k s r)
theorem RpA.keep (k : ∀ b o, S b → H b = some o → H' b = some o) (s : ∀ b, S b → S' b) : ∀ {ds : List PyData} {vs : List V}, RpA H S vs ds → RpA H' S' vs ds
  | [], _, .nil => .nil
  | _ :: _, _, .cons h r => .cons (Rp.keep k s h) (RpA.keep k s r)
end
mutual
theorem Rp.dp : ∀ {d : PyData} {v : V}, Rp H S v d → Dp K H v d
  | .none, _, .non => .non
  | .bool _, _, .bl b => .bl b
  | .int _, _, .int i => .int i
  | .str _, _, .str x => .str x
  | .list _, _, .lst _ h r => .lst (sq_l h) (RpA.dp r)
  | .tuple _, _, .tup _ h r => .tup (sq_t h) (RpA.dp r)
theorem RpA.dp : ∀ {ds : List PyData} {vs : List V}, RpA H S vs ds → DpAll K H vs ds
  | [], _, .nil => .nil
  | _ :: _, _, .cons h r => .cons (Rp.dp h) (RpA.dp r)
end
mutual
theorem Rp.here : ∀ {d : PyData} {v : V}, Rp H S v d → Rp H (fun b => S b ∧ ∃ o, H b = some o) v d
  | .none, _, .non => .non
  | .bool _, _, .bl b => .bl b
  | .int _, _, .int i => .int i
  | .str _, _, .str x => .str x
  | .list _, _, .lst m h r => .lst ⟨m, _, h⟩ h (RpA.here r)
  | .tuple _, _, .tup m h r => .tup ⟨m, _, h⟩ h (RpA.here r)
theorem RpA.here : ∀ {ds : List PyData} {vs : List V}, RpA H S vs ds → RpA H (fun b => S b ∧ ∃ o, H b = some o) vs ds
  | [], _, .nil => .nil
  | _ :: _, _, .cons h r => .cons (Rp.here h) (RpA.here r)
end
theorem Rp.off {p : Addr} (hp : H p = none) {v : V} {d : PyData} (h : Rp H S v d) : Rp H (fun b => S b ∧ b ≠ p) v d :=
  h.here.keep (fun _ _ _ q => q) fun b ⟨q, o, e⟩ => ⟨q, ne_of_none e hp⟩
theorem RpA.off {p : Addr} (hp : H p = none) {v : List V} {d : List PyData} (h : RpA H S v d) : RpA H (fun b => S b ∧ b ≠ p) v d :=
  h.here.keep (fun _ _ _ q => q) fun b ⟨q, o, e⟩ => ⟨q, ne_of_none e hp⟩
theorem Rp.ex (e : Ex H H') {v : V} {d : PyData} (h : Rp H S v d) : Rp H' S v d := h.keep (fun b o _ q => e b o q) fun _ q => q
theorem RpA.ex (e : Ex H H') {v : List V} {d : List PyData} (h : RpA H S v d) : RpA H' S v d := h.keep (fun b o _ q => e b o q) fun _ q => q
theorem Rp.sub {v : V} {d : PyData} (h : Rp H S v d) (s : ∀ b, S b → S' b) : Rp H S' v d := h.keep (fun _ _ _ q => q) s
theorem RpA.sub {v : List V} {d : List PyData} (h : RpA H S v d) (s : ∀ b, S b → S' b) : RpA H S' v d := h.keep (fun _ _ _ q => q) s
theorem RpA.app : ∀ {xs ys : List V} {ds es : List PyData}, RpA H S xs ds → RpA H S ys es → RpA H S (xs ++ ys) (ds ++ es)
  | _, _, _, _, .nil, r => r
  | _, _, _, _, .cons h t, r => .cons h (RpA.app t r)
theorem RpA.len : ∀ {vs : List V} {ds : List PyData}, RpA H S vs ds → vs.length = ds.length
  | _, _, .nil => rfl
  | _, _, .cons _ r => congrArg Nat.succ (RpA.len r)
theorem RpA.at : ∀ {vs : List V} {ds : List PyData} {i : Nat} {d : PyData}, RpA H S vs ds → ds[i]? = some d → ∃ v, vs[i]? = some v ∧ Rp H S v d
  | _, _, _, _, .nil, e => by simp at e
  | _, _, 0, _, .cons h _, e => by simp at e; subst e; exact ⟨_, rfl, h⟩
  | _, _, i + 1, _, .cons _ r, e => by simpa using RpA.at (i := i) r (by simpa using e)
theorem RpA.at' : ∀ {vs : List V} {ds : List PyData} {i : Nat} {v : V}, RpA H S vs ds → vs[i]? = some v → ∃ d, ds[i]? = some d ∧ Rp H S v d
  | _, _, _, _, .nil, e => by simp at e
  | _, _, 0, _, .cons h _, e => by simp at e; subst e; exact ⟨_, rfl, h⟩
  | _, _, i + 1, _, .cons _ r, e => by simpa using RpA.at' (i := i) r (by simpa using e)
theorem RpA.ints : ∀ {ns : List Int}, RpA H S (ns.map V.int) (ns.map PyData.int)
  | [] => .nil
  | n :: _ => .cons (.int n) RpA.ints
theorem RpA.ints_inv : ∀ {ns : List Int} {vs : List V}, RpA H S vs (ns.map PyData.int) → vs = ns.map V.int
  | [], _, .nil => rfl
  | _ :: _, _, .cons (.int _) r => congrArg _ (RpA.ints_inv r)
/-- a new datum: all of it new to H -/
abbrev New (H : Hp) : Addr → Prop := fun b => H b = none
theorem new_ex (e : Ex H H') : ∀ b, New H' b → New H b := fun _ n => Evl.fresh_back e n
end

/-! ### comprehensions -/
theorem dpa_ex {K : PySem.W.Frag} {H H' : Hp} (e : Ex H H') : ∀ {vs : List V} {ds : List PyData}, DpAll K H vs ds → DpAll K H' vs ds
  | _, _, .nil => .nil
  | _, _, .cons h r => .cons (dp_ex e _ _ h) (dpa_ex e r)
theorem dpa_len {K : PySem.W.Frag} {H : Hp} : ∀ {vs : List V} {ds : List PyData}, DpAll K H vs ds → vs.length = ds.length
  | _, _, .nil => rfl
  | _, _, .cons _ r => congrArg Nat.succ (dpa_len r)
theorem dpa_at {K : PySem.W.Frag} {H : Hp} : ∀ {vs : List V} {ds : List PyData} {i : Nat} {d : PyData}, DpAll K H vs ds → ds[i]? = some d → ∃ v, vs[i]? = some v ∧ Dp K H v d
  | _, _, _, _, .nil, e => by simp at e
  | _, _, 0, _, .cons h _, e => by simp at e; subst e; exact ⟨_, rfl, h⟩
  | _, _, i + 1, _, .cons _ r, e => by simpa using dpa_at (i := i) r (by simpa using e)
theorem dpa_ints {K : PySem.W.Frag} {H : Hp} : ∀ {ns : List Int}, DpAll K H (ns.map V.int) (ns.map PyData.int)
  | [] => .nil
  | n :: _ => .cons (.int n) dpa_ints
section
variable {K : PySem.W.Frag} {σ : L2.St} {H : Hp} {ta : TA} {te tl : TE} {tt : TT} {j : Nat} {vs : List Nat} {Q : VK} {n : Nat} {a : Addr} {xs : List V}
/-- one turn of a comprehension without a test: what is at D grows by what represents d i -/
def LcAt (H : Hp) (D : Addr) (d : Nat → PyData) (i : Nat) (H' : Hp) : Prop :=
  H D = none ∧ Ex H H' ∧ ∃ ys, H' D = some (.lst ys) ∧ RpA H' (fun b => New H b ∧ b ≠ D) ys ((List.range i).map d)
theorem LcAt.start {d : Nat → PyData} {D : Addr} (h : H D = none) : LcAt H D d 0 (upd H D (.lst [])) := ⟨h, exn h, [], upd_same, .nil⟩
theorem lc_step {d : Nat → PyData} {D : Addr} {i : Nat} {H' : Hp} {σ2 : L2.St} (p : LcAt H D d i H') (hi : i < 1000000)
    (he : ∀ H1, Ex H H1 → ∀ R : VK, (∀ v H2, Ex H1 H2 → Rp H2 (New H1) v (d i) → R v H2) → te σ2 H1 R) :
    tYes σ2 H' fun b H3 => if b = true then te σ2 H3 fun y H4 => ∃ acc, H4 D = some (.lst acc) ∧ acc.length < sizeLine ∧ LcAt H D d (i + 1) (upd H4 D (.lst (acc ++ [y]))) else LcAt H D d (i + 1) H3 := by
  obtain ⟨p1, p2, ys, p3, p4⟩ := p
  unfold tYes
  show (if true = true then _ else _)
  rw [if_pos rfl]
  refine he H' p2 _ fun v H2 e2 hv => ?_
  have len : ys.length = i := by rw [p4.len, List.length_map, List.length_range]
  have keep : ∀ (b : Addr) (o : HO), New H b ∧ b ≠ D → H2 b = some o → (upd H2 D (.lst (ys ++ [v]))) b = some o := fun b o m q => by rw [upd_ne m.2]; exact q
  refine ⟨ys, e2 D _ p3, ?_, p1, Mo.ex_new (p2.trans e2) p1 Mo.upd, ys ++ [v], upd_same, ?_⟩
  · rw [len, sizeLine_eq]; omega
  · rw [List.range_succ, List.map_append]
    refine RpA.app ((p4.ex e2).keep keep fun _ q => q) (.cons ?_ .nil)
    exact (hv.sub fun b q => ⟨Evl.fresh_back p2 q, ne_of_none' q p3⟩).keep keep fun _ q => q
where ne_of_none' {H : Hp} {a b : Addr} {o : HO} (q : H b = none) (h : H a = some o) : b ≠ a := fun e => by rw [e, h] at q; cases q
/-- [.. for x in range(n)] -/
theorem lc_rng (d : Nat → PyData) (ha : ∀ R, R [.int (n : Int)] H → ta σ H R) (hn : n ≤ 1000000) (hw : ∀ x, wipe ((wipe σ vs).set j (some x)) vs = wipe σ vs)
    (he : ∀ (i : Nat) H1, i < n → Ex H H1 → ∀ R : VK, (∀ v H2, Ex H1 H2 → Rp H2 (New H1) v (d i) → R v H2) → te ((wipe σ vs).set j (some (.int (i : Int)))) H1 R)
    (k : ∀ v H', Ex H H' → Rp H' (New H) v (.list ((List.range n).map d)) → Q v H') : tLc (iRng1 ta) (gName j) tYes te vs σ H Q := by
  refine ha _ ⟨(n : Int), rfl, by omega, by omega, fun D hD => ?_⟩
  refine lc_range (lo := 0) (n := n) (LcAt H D d) (.start hD) (fun i H' hi p => ?_) (fun H' p => ?_)
  · have e0 : (0 : Int) + (i : Int) = (i : Int) := Int.zero_add _
    show wipe ((wipe σ vs).set j (some (.int ((0 : Int) + (i : Int))))) vs = wipe σ vs ∧ _
    refine ⟨hw _, ?_⟩
    rw [e0]
    exact lc_step p (by omega) (he i · hi)
  · obtain ⟨p1, p2, ys, p3, p4⟩ := p
    exact k _ _ p2 (.lst p1 p3 (p4.sub fun b q => q.1))
theorem lc_rng2 {lo : Int} (d : Nat → PyData) (ha : ∀ R, R [.int lo, .int (lo + (n : Int))] H → ta σ H R) (hn : n ≤ 1000000) (hlo : -1000000 ≤ lo ∧ lo ≤ 1000000) (hw : ∀ x, wipe ((wipe σ vs).set j (some x)) vs = wipe σ vs)
    (he : ∀ (i : Nat) H1, i < n → Ex H H1 → ∀ R : VK, (∀ v H2, Ex H1 H2 → Rp H2 (New H1) v (d i) → R v H2) → te ((wipe σ vs).set j (some (.int (lo + (i : Int))))) H1 R)
    (k : ∀ v H', Ex H H' → Rp H' (New H) v (.list ((List.range n).map d)) → Q v H') : tLc (iRng2 ta) (gName j) tYes te vs σ H Q := by
  refine ha _ ⟨lo, lo + (n : Int), rfl, ⟨by omega, by omega, by omega, by omega⟩, fun D hD => ?_⟩
  have en : (lo + (n : Int) - lo).toNat = n := by omega
  rw [en]
  refine lc_range (lo := lo) (n := n) (LcAt H D d) (.start hD) (fun i H' hi p => ⟨hw _, lc_step p (by omega) (he i · hi)⟩) (fun H' p => ?_)
  obtain ⟨p1, p2, ys, p3, p4⟩ := p
  exact k _ _ p2 (.lst p1 p3 (p4.sub fun b q => q.1))
/-- [.. for x in xs], xs a list that stands -/
theorem lc_lst (d : Nat → PyData) (ha : ∀ R, R (.ref a) H → tl σ H R) (hx : SqL K H a xs) (hn : xs.length ≤ 1000000) (hw : ∀ x, wipe ((wipe σ vs).set j (some x)) vs = wipe σ vs)
    (he : ∀ (i : Nat) x H1, xs[i]? = some x → Ex H H1 → ∀ R : VK, (∀ v H2, Ex H1 H2 → Rp H2 (New H1) v (d i) → R v H2) → te ((wipe σ vs).set j (some x)) H1 R)
    (k : ∀ v H', Ex H H' → Rp H' (New H) v (.list ((List.range xs.length).map d)) → Q v H') : tLc (iList K tl) (gName j) tYes te vs σ H Q := by
  refine ha _ ⟨a, rfl, ⟨xs, hx⟩, fun D hD => ?_⟩
  refine lc_list (xs := xs) (LcAt H D d) (.start hD) (fun i H' _ p => Evl.ex_l p.2.1 hx) (fun i x H' hi p => ⟨hw _, lc_step p ?_ (he i x · hi)⟩) (fun H' p => ?_)
  · have := (List.getElem?_eq_some_iff.mp hi).1; omega
  · obtain ⟨p1, p2, ys, p3, p4⟩ := p
    exact k _ _ p2 (.lst p1 p3 (p4.sub fun b q => q.1))
end

section
variable {K : PySem.W.Frag} {σ : L2.St} {H : Hp} {ta : TA} {te tl : TE} {tt : TT} {j : Nat} {vs : List Nat} {Q : VK} {n : Nat} {a : Addr} {xs : List V}
/-- with a test -/
def LcAtF (H : Hp) (D : Addr) (f : Nat → Bool) (d : Nat → PyData) (i : Nat) (H' : Hp) : Prop :=
  H D = none ∧ Ex H H' ∧ ∃ ys, H' D = some (.lst ys) ∧ RpA H' (fun b => New H b ∧ b ≠ D) ys (((List.range i).filter f).map d)
theorem LcAtF.start {f : Nat → Bool} {d : Nat → PyData} {D : Addr} (h : H D = none) : LcAtF H D f d 0 (upd H D (.lst [])) := ⟨h, exn h, [], upd_same, .nil⟩
theorem lc_stepF {f : Nat → Bool} {d : Nat → PyData} {D : Addr} {i : Nat} {H' : Hp} {σ2 : L2.St} (p : LcAtF H D f d i H') (hi : i < 1000000)
    (ht : ∀ H1, Ex H H1 → ∀ R : Bool → Hp → Prop, (∀ H2, Ex H1 H2 → R (f i) H2) → tt σ2 H1 R)
    (he : f i = true → ∀ H1, Ex H H1 → ∀ R : VK, (∀ v H2, Ex H1 H2 → Rp H2 (New H1) v (d i) → R v H2) → te σ2 H1 R) :
    tt σ2 H' fun b H3 => if b = true then te σ2 H3 fun y H4 => ∃ acc, H4 D = some (.lst acc) ∧ acc.length < sizeLine ∧ LcAtF H D f d (i + 1) (upd H4 D (.lst (acc ++ [y]))) else LcAtF H D f d (i + 1) H3 := by
  obtain ⟨p1, p2, ys, p3, p4⟩ := p
  refine ht H' p2 _ fun H3 e3 => ?_
  cases hf : f i with
  | false =>
    refine iteF ⟨p1, p2.trans e3, ys, e3 D _ p3, ?_⟩
    rw [List.range_succ, List.filter_append, List.filter_cons_of_neg (by simp [hf]), List.filter_nil, List.append_nil]
    exact p4.ex e3
  | true =>
    show (if true = true then _ else _)
    rw [if_pos rfl]
    refine he hf H3 (p2.trans e3) _ fun v H2 e2 hv => ?_
    have len : ys.length ≤ i := by
      rw [p4.len, List.length_map]
      have := List.length_filter_le f (List.range i)
      rw [List.length_range] at this
      exact this
    have p5 := e3 D _ p3
    have keep : ∀ (b : Addr) (o : HO), New H b ∧ b ≠ D → H2 b = some o → (upd H2 D (.lst (ys ++ [v]))) b = some o := fun b o m q => by rw [upd_ne m.2]; exact q
    refine ⟨ys, e2 D _ p5, ?_, p1, Mo.ex_new ((p2.trans e3).trans e2) p1 Mo.upd, ys ++ [v], upd_same, ?_⟩
    · rw [sizeLine_eq]; omega
    · rw [List.range_succ, List.filter_append, List.filter_cons_of_pos hf, List.filter_nil, List.map_append]
      refine RpA.app (((p4.ex e3).ex e2).keep keep fun _ q => q) (.cons ?_ .nil)
      exact (hv.sub fun b q => ⟨Evl.fresh_back (p2.trans e3) q, lc_step.ne_of_none' q p5⟩).keep keep fun _ q => q
theorem lc_rng2F {lo : Int} (f : Nat → Bool) (d : Nat → PyData) (ha : ∀ R, R [.int lo, .int (lo + (n : Int))] H → ta σ H R) (hn : n ≤ 1000000) (hlo : -1000000 ≤ lo ∧ lo ≤ 1000000) (hw : ∀ x, wipe ((wipe σ vs).set j (some x)) vs = wipe σ vs)
    (ht : ∀ (i : Nat) H1, i < n → Ex H H1 → ∀ R : Bool → Hp → Prop, (∀ H2, Ex H1 H2 → R (f i) H2) → tt ((wipe σ vs).set j (some (.int (lo + (i : Int))))) H1 R)
    (he : ∀ (i : Nat) H1, i < n → f i = true → Ex H H1 → ∀ R : VK, (∀ v H2, Ex H1 H2 → Rp H2 (New H1) v (d i) → R v H2) → te ((wipe σ vs).set j (some (.int (lo + (i : Int))))) H1 R)
    (k : ∀ v H', Ex H H' → Rp H' (New H) v (.list (((List.range n).filter f).map d)) → Q v H') : tLc (iRng2 ta) (gName j) tt te vs σ H Q := by
  refine ha _ ⟨lo, lo + (n : Int), rfl, ⟨by omega, by omega, by omega, by omega⟩, fun D hD => ?_⟩
  have en : (lo + (n : Int) - lo).toNat = n := by omega
  rw [en]
  refine lc_range (lo := lo) (n := n) (LcAtF H D f d) (.start hD) (fun i H' hi p => ⟨hw _, lc_stepF p (by omega) (fun H1 => ht i H1 hi) (fun hf H1 => he i H1 hi hf)⟩) (fun H' p => ?_)
  obtain ⟨p1, p2, ys, p3, p4⟩ := p
  exact k _ _ p2 (.lst p1 p3 (p4.sub fun b q => q.1))
theorem lc_lstF (f : Nat → Bool) (d : Nat → PyData) (ha : ∀ R, R (.ref a) H → tl σ H R) (hx : SqL K H a xs) (hn : xs.length ≤ 1000000) (hw : ∀ x, wipe ((wipe σ vs).set j (some x)) vs = wipe σ vs)
    (ht : ∀ (i : Nat) x H1, xs[i]? = some x → Ex H H1 → ∀ R : Bool → Hp → Prop, (∀ H2, Ex H1 H2 → R (f i) H2) → tt ((wipe σ vs).set j (some x)) H1 R)
    (he : ∀ (i : Nat) x H1, xs[i]? = some x → f i = true → Ex H H1 → ∀ R : VK, (∀ v H2, Ex H1 H2 → Rp H2 (New H1) v (d i) → R v H2) → te ((wipe σ vs).set j (some x)) H1 R)
    (k : ∀ v H', Ex H H' → Rp H' (New H) v (.list (((List.range xs.length).filter f).map d)) → Q v H') : tLc (iList K tl) (gName j) tt te vs σ H Q := by
  refine ha _ ⟨a, rfl, ⟨xs, hx⟩, fun D hD => ?_⟩
  refine lc_list (xs := xs) (LcAtF H D f d) (.start hD) (fun i H' _ p => Evl.ex_l p.2.1 hx) (fun i x H' hi p => ⟨hw _, lc_stepF p ?_ (fun H1 => ht i x H1 hi) (fun hf H1 => he i x H1 hi hf)⟩) (fun H' p => ?_)
  · have := (List.getElem?_eq_some_iff.mp hi).1; omega
  · obtain ⟨p1, p2, ys, p3, p4⟩ := p
    exact k _ _ p2 (.lst p1 p3 (p4.sub fun b q => q.1))
end

theorem cut_to (xs : List V) (m : Nat) : cutV xs none (some (m : Int)) = xs.take m := by
  unfold cutV
  have e : HT.sIx xs.length xs.length (some (m : Int)) = min m xs.length := HT.sIx_nat xs.length xs.length m
  rw [e, HT.sIx_none]
  show List.take (min m xs.length - 0) xs = _
  rw [Nat.sub_zero, ← List.take_take, List.take_length]
theorem cut_1 (xs : List V) : cutV xs (some 1) none = xs.drop 1 := by
  unfold cutV
  have e : HT.sIx xs.length 0 (some 1) = min 1 xs.length := HT.sIx_nat xs.length 0 1
  rw [e, HT.sIx_none]
  cases xs with
  | nil => rfl
  | cons x r =>
    have e2 : min 1 (x :: r).length = 1 := by rw [List.length_cons]; omega
    rw [e2]
    show List.take ((x :: r).length - 1) r = r
    rw [List.length_cons, Nat.add_sub_cancel, List.take_length]
/-! ### comprehensions over a range, with what stands between the turns -/
section
variable {K : PySem.W.Frag} {σ : L2.St} {H : Hp} {ta : TA} {te tl : TE} {tt : TT} {j : Nat} {vs : List Nat} {Q : VK} {n : Nat} {a : Addr} {xs : List V}
/-- ints, each with a word P; I i is kept by what does not touch old objects -/
theorem lc_rngI (I : Nat → Hp → Prop) (P : Nat → Int → Prop) (ha : ∀ R, R [.int (n : Int)] H → ta σ H R) (hn : n ≤ 1000000) (hw : ∀ x, wipe ((wipe σ vs).set j (some x)) vs = wipe σ vs)
    (h0 : I 0 H) (hI : ∀ i p H1 H2, I i H1 → H p = none → Mo p H1 H2 → I i H2)
    (he : ∀ (i : Nat) p H1, i < n → I i H1 → H p = none → (∃ o, H1 p = some o) → ∀ R : VK, (∀ x H2, I (i + 1) H2 → P i x → H2 p = H1 p → R (.int x) H2) → te ((wipe σ vs).set j (some (.int (i : Int)))) H1 R)
    (k : ∀ (ns : List Int) p H', ns.length = n → (∀ i x, ns[i]? = some x → P i x) → I n H' → H p = none → H' p = some (.lst (ns.map V.int)) → Q (.ref p) H') : tLc (iRng1 ta) (gName j) tYes te vs σ H Q := by
  refine ha _ ⟨(n : Int), rfl, by omega, by omega, fun D hD => ?_⟩
  refine lc_range (lo := 0) (n := n) (fun i H' => I i H' ∧ ∃ ns : List Int, ns.length = i ∧ (∀ i x, ns[i]? = some x → P i x) ∧ H' D = some (.lst (ns.map V.int)))
    ⟨hI 0 D H _ h0 hD Mo.upd, [], rfl, by simp, upd_same⟩ (fun i H' hi p => ?_) (fun H' p => ?_)
  · obtain ⟨i0, ns, len, hp, hd⟩ := p
    have e0 : (0 : Int) + (i : Int) = (i : Int) := Int.zero_add _
    show wipe ((wipe σ vs).set j (some (.int ((0 : Int) + (i : Int))))) vs = wipe σ vs ∧ _
    refine ⟨hw _, ?_⟩
    rw [e0]
    unfold tYes
    show (if true = true then _ else _)
    rw [if_pos rfl]
    refine he i D H' hi i0 hD ⟨_, hd⟩ _ fun x H2 i2 px ed => ?_
    refine ⟨ns.map V.int, by rw [ed, hd], ?_, hI _ D H2 _ i2 hD Mo.upd, ns ++ [x], by simp [len], ?_, ?_⟩
    · rw [List.length_map, len, sizeLine_eq]; omega
    · intro m y hm
      rw [List.getElem?_append] at hm
      split at hm
      · exact hp m y hm
      · rename_i hl
        have e : m = i := by
          rcases Nat.lt_or_ge (m - ns.length) 1 with h | h
          · omega
          · rw [List.getElem?_eq_none (by simpa using h)] at hm; cases hm
        subst e
        rw [len, Nat.sub_self] at hm
        simp at hm
        subst hm
        exact px
    · rw [upd_same, List.map_append]; rfl
  · obtain ⟨i0, ns, len, hp, hd⟩ := p
    exact k ns D H' len hp i0 hD hd
end
/-! ### two displays of the same -/
theorem neF_same {K : PySem.W.Frag} {H : Hp} {p q : Addr} {xs : List V} {ds : List PyData} {A B : Prop} (h1 : H p = some (.lst xs)) (h2 : H q = some (.lst xs)) (hd : DpAll K H xs ds) (hf : fine 20 (.list ds) = true) (b : B) :
    ∃ d, Dp K H (.ref p) d ∧ ∃ e, Dp K H (.ref q) e ∧ fine 20 d = true ∧ fine 20 e = true ∧ if d.eqv e = false then A else B :=
  ⟨_, .lst (sq_l h1) hd, _, .lst (sq_l h2) hd, hf, hf, by rw [eqv_same hf, if_neg (by decide)]; exact b⟩
theorem eqF_same {K : PySem.W.Frag} {H : Hp} {p q : Addr} {xs : List V} {ds : List PyData} {Q : VK} (h1 : H p = some (.lst xs)) (h2 : H q = some (.lst xs)) (hd : DpAll K H xs ds) (hf : fine 20 (.list ds) = true) (b : Q (.bl true) H) :
    ∃ d, Dp K H (.ref p) d ∧ ∃ e, Dp K H (.ref q) e ∧ fine 20 d = true ∧ fine 20 e = true ∧ Q (.bl (d.eqv e)) H :=
  ⟨_, .lst (sq_l h1) hd, _, .lst (sq_l h2) hd, hf, hf, by rw [eqv_same hf]; exact b⟩

theorem tyV_list {K : PySem.W.Frag} {p : Addr} {H : Hp} : tyV K "list" (.ref p) H = ∃ xs, SqL K H p xs := by
  unfold tyV
  simp
theorem Rp.ints {H : Hp} {S : Addr → Prop} {v : V} {ns : List Int} (h : Rp H S v (.list (ns.map PyData.int))) : ∃ a, v = .ref a ∧ S a ∧ H a = some (.lst (ns.map V.int)) := by
  cases h with
  | lst m e r => exact ⟨_, rfl, m, by rw [e, r.ints_inv]⟩

/-! ### loops -/
section
variable {K : PySem.W.Frag} {σ : L2.St} {H : Hp} {ta : TA} {tl : TE} {tb : TS} {g : TG} {j : Nat} {D : Ends} {a : Addr} {xs : List V}
theorem for_rng2 {lo hi : Int} (n : Nat) (ha : ∀ R, R [.int lo, .int hi] H → ta σ H R) (hn : (hi - lo).toNat = n) (hb : -(2 ^ 60) ≤ lo ∧ lo ≤ 2 ^ 60 ∧ -(2 ^ 60) ≤ hi ∧ hi ≤ 2 ^ 60)
    (Pv : Nat → L2.St → Hp → Prop) (h0 : Pv 0 σ H) (hd : ∀ σ H, Pv n σ H → D.nx σ H)
    (hs : ∀ (i : Nat) σ H, i < n → Pv i σ H → tb { D with nx := Pv (i + 1), ct := Pv (i + 1), bk := D.nx } (σ.set j (some (.int (lo + (i : Int))))) H) : tFor (iRng2 ta) (gName j) tb D σ H := by
  refine ha _ ⟨lo, hi, rfl, ⟨by omega, by omega, by omega, by omega⟩, ?_⟩
  rw [hn]
  exact for_range Pv h0 hs hd
theorem for_rng1 {hi : Int} (n : Nat) (ha : ∀ R, R [.int hi] H → ta σ H R) (hn : hi.toNat = n) (hb : -(2 ^ 60) ≤ hi ∧ hi ≤ 2 ^ 60)
    (Pv : Nat → L2.St → Hp → Prop) (h0 : Pv 0 σ H) (hd : ∀ σ H, Pv n σ H → D.nx σ H)
    (hs : ∀ (i : Nat) σ H, i < n → Pv i σ H → tb { D with nx := Pv (i + 1), ct := Pv (i + 1), bk := D.nx } (σ.set j (some (.int (i : Int)))) H) : tFor (iRng1 ta) (gName j) tb D σ H := by
  refine ha _ ⟨hi, rfl, by omega, by omega, ?_⟩
  rw [hn]
  refine for_range (lo := 0) Pv h0 (fun i σ H hi p => ?_) hd
  have e0 : (0 : Int) + (i : Int) = (i : Int) := Int.zero_add _
  show tb _ (σ.set j (some (.int ((0 : Int) + (i : Int))))) H
  rw [e0]
  exact hs i σ H hi p
theorem for_lst (ha : ∀ R, R (.ref a) H → tl σ H R) (hx : SqL K H a xs) (Pv : Nat → L2.St → Hp → Prop) (h0 : Pv 0 σ H) (hl : ∀ i σ' H', i ≤ xs.length → Pv i σ' H' → SqL K H' a xs) (hd : ∀ σ H, Pv xs.length σ H → D.nx σ H)
    (hs : ∀ (i : Nat) x σ H, xs[i]? = some x → Pv i σ H → g x σ H fun σ2 H2 => tb { D with nx := Pv (i + 1), ct := Pv (i + 1), bk := D.nx } σ2 H2) : tFor (iList K tl) g tb D σ H :=
  ha _ ⟨a, rfl, ⟨xs, hx⟩, for_list Pv h0 hl hs hd⟩
theorem for_tupl (ha : ∀ R, R (.ref a) H → tl σ H R) (hx : SqT K H a xs) (Pv : Nat → L2.St → Hp → Prop) (h0 : Pv 0 σ H) (hl : ∀ i σ' H', i ≤ xs.length → Pv i σ' H' → SqT K H' a xs) (hd : ∀ σ H, Pv xs.length σ H → D.nx σ H)
    (hs : ∀ (i : Nat) x σ H, xs[i]? = some x → Pv i σ H → g x σ H fun σ2 H2 => tb { D with nx := Pv (i + 1), ct := Pv (i + 1), bk := D.nx } σ2 H2) : tFor (iTup K tl) g tb D σ H :=
  ha _ ⟨a, rfl, ⟨xs, hx⟩, for_tup Pv h0 hl hs hd⟩
end

/-! loops whose walked thing is reckoned first: simp only [tFor_tup], walk, then forT_in -/
section
variable {K : PySem.W.Frag} {σ : L2.St} {H : Hp} {ta : TA} {tl : TE} {tb : TS} {g : TG} {j : Nat} {D : Ends} {a : Addr} {xs : List V}
def ForI (J : Addr → It) (S : Hp → Addr → Prop) (g : TG) (tb : TS) (D : Ends) (σ : L2.St) (x : V) (H1 : Hp) : Prop := ∃ a, x = .ref a ∧ S H1 a ∧ ∃ W : Nat → Nat → L2.St → Hp → Prop, (∃ m, W 0 m σ H1) ∧ ∀ i m σ H, W i m σ H →
  ((J a).stop i H ∧ D.nx σ H) ∨ ((J a).go i H ∧ ∃ N : L2.St → Hp → Prop, (∀ σ' H', N σ' H' → ∃ m', m' < m ∧ W (i + 1) m' σ' H') ∧ ∀ x H', (J a).yld i H x H' → g x σ H' fun σ2 H2 => tb { D with nx := N, ct := N, bk := D.nx } σ2 H2)
theorem tFor_tup : tFor (iTup K tl) g tb D σ H = tl σ H (ForI (Itt K) (fun H a => ∃ xs, SqT K H a xs) g tb D σ) := rfl
theorem tFor_lst : tFor (iList K tl) g tb D σ H = tl σ H (ForI (Itl K) (fun H a => ∃ xs, SqL K H a xs) g tb D σ) := rfl
theorem forT_in (hx : SqT K H a xs) (Pv : Nat → L2.St → Hp → Prop) (h0 : Pv 0 σ H) (hl : ∀ i σ' H', i ≤ xs.length → Pv i σ' H' → SqT K H' a xs) (hd : ∀ σ H, Pv xs.length σ H → D.nx σ H)
    (hs : ∀ (i : Nat) x σ H, xs[i]? = some x → Pv i σ H → g x σ H fun σ2 H2 => tb { D with nx := Pv (i + 1), ct := Pv (i + 1), bk := D.nx } σ2 H2) : ForI (Itt K) (fun H a => ∃ xs, SqT K H a xs) g tb D σ (.ref a) H :=
  ⟨a, rfl, ⟨xs, hx⟩, for_tup Pv h0 hl hs hd⟩
theorem forL_in (hx : SqL K H a xs) (Pv : Nat → L2.St → Hp → Prop) (h0 : Pv 0 σ H) (hl : ∀ i σ' H', i ≤ xs.length → Pv i σ' H' → SqL K H' a xs) (hd : ∀ σ H, Pv xs.length σ H → D.nx σ H)
    (hs : ∀ (i : Nat) x σ H, xs[i]? = some x → Pv i σ H → g x σ H fun σ2 H2 => tb { D with nx := Pv (i + 1), ct := Pv (i + 1), bk := D.nx } σ2 H2) : ForI (Itl K) (fun H a => ∃ xs, SqL K H a xs) g tb D σ (.ref a) H :=
  ⟨a, rfl, ⟨xs, hx⟩, for_list Pv h0 hl hs hd⟩
end

/-! comprehensions whose walked thing is reckoned first -/
section
variable {K : PySem.W.Frag} {σ : L2.St} {H : Hp} {te tl : TE} {tt : TT} {g : TG} {j : Nat} {vs : List Nat} {Q : VK} {a : Addr} {xs : List V}
def LcI (J : Addr → It) (S : Hp → Addr → Prop) (g : TG) (tt : TT) (te : TE) (vs : List Nat) (σ : L2.St) (Q : VK) (x : V) (H1 : Hp) : Prop := ∃ a, x = .ref a ∧ S H1 a ∧ ∀ D, H1 D = none → ∃ W : Nat → Nat → Hp → Prop, (∃ m, W 0 m (upd H1 D (.lst []))) ∧ ∀ i m H, W i m H →
  ((J a).stop i H ∧ Q (.ref D) H) ∨ ((J a).go i H ∧ ∃ Nx : Hp → Prop, (∀ H', Nx H' → ∃ m', m' < m ∧ W (i + 1) m' H') ∧ ∀ x H', (J a).yld i H x H' → g x (wipe σ vs) H' fun σ2 H2 => wipe σ2 vs = wipe σ vs ∧ tt σ2 H2 fun b H3 =>
    if b = true then te σ2 H3 fun y H4 => ∃ acc, H4 D = some (.lst acc) ∧ acc.length < sizeLine ∧ Nx (upd H4 D (.lst (acc ++ [y]))) else Nx H3)
theorem tLc_tup : tLc (iTup K tl) g tt te vs σ H Q = tl σ H (LcI (Itt K) (fun H a => ∃ xs, SqT K H a xs) g tt te vs σ Q) := rfl
theorem tLc_lst : tLc (iList K tl) g tt te vs σ H Q = tl σ H (LcI (Itl K) (fun H a => ∃ xs, SqL K H a xs) g tt te vs σ Q) := rfl
theorem lcT_in (f : Nat → Bool) (d : Nat → PyData) (hx : SqT K H a xs) (hn : xs.length ≤ 1000000) (hw : ∀ x, wipe ((wipe σ vs).set j (some x)) vs = wipe σ vs)
    (ht : ∀ (i : Nat) x H1, xs[i]? = some x → Ex H H1 → ∀ R : Bool → Hp → Prop, (∀ H2, Ex H1 H2 → R (f i) H2) → tt ((wipe σ vs).set j (some x)) H1 R)
    (he : ∀ (i : Nat) x H1, xs[i]? = some x → f i = true → Ex H H1 → ∀ R : VK, (∀ v H2, Ex H1 H2 → Rp H2 (New H1) v (d i) → R v H2) → te ((wipe σ vs).set j (some x)) H1 R)
    (k : ∀ v H', Ex H H' → Rp H' (New H) v (.list (((List.range xs.length).filter f).map d)) → Q v H') : LcI (Itt K) (fun H a => ∃ xs, SqT K H a xs) (gName j) tt te vs σ Q (.ref a) H := by
  refine ⟨a, rfl, ⟨xs, hx⟩, fun D hD => ?_⟩
  refine lc_tup (xs := xs) (LcAtF H D f d) (.start hD) (fun i H' _ p => Evl.ex_t p.2.1 hx) (fun i x H' hi p => ⟨hw _, lc_stepF p ?_ (fun H1 => ht i x H1 hi) (fun hf H1 => he i x H1 hi hf)⟩) (fun H' p => ?_)
  · have := (List.getElem?_eq_some_iff.mp hi).1; omega
  · obtain ⟨p1, p2, ys, p3, p4⟩ := p
    exact k _ _ p2 (.lst p1 p3 (p4.sub fun b q => q.1))
theorem lcL_in (f : Nat → Bool) (d : Nat → PyData) (hx : SqL K H a xs) (hn : xs.length ≤ 1000000) (hw : ∀ x, wipe ((wipe σ vs).set j (some x)) vs = wipe σ vs)
    (ht : ∀ (i : Nat) x H1, xs[i]? = some x → Ex H H1 → ∀ R : Bool → Hp → Prop, (∀ H2, Ex H1 H2 → R (f i) H2) → tt ((wipe σ vs).set j (some x)) H1 R)
    (he : ∀ (i : Nat) x H1, xs[i]? = some x → f i = true → Ex H H1 → ∀ R : VK, (∀ v H2, Ex H1 H2 → Rp H2 (New H1) v (d i) → R v H2) → te ((wipe σ vs).set j (some x)) H1 R)
    (k : ∀ v H', Ex H H' → Rp H' (New H) v (.list (((List.range xs.length).filter f).map d)) → Q v H') : LcI (Itl K) (fun H a => ∃ xs, SqL K H a xs) (gName j) tt te vs σ Q (.ref a) H := by
  refine ⟨a, rfl, ⟨xs, hx⟩, fun D hD => ?_⟩
  refine lc_list (xs := xs) (LcAtF H D f d) (.start hD) (fun i H' _ p => Evl.ex_l p.2.1 hx) (fun i x H' hi p => ⟨hw _, lc_stepF p ?_ (fun H1 => ht i x H1 hi) (fun hf H1 => he i x H1 hi hf)⟩) (fun H' p => ?_)
  · have := (List.getElem?_eq_some_iff.mp hi).1; omega
  · obtain ⟨p1, p2, ys, p3, p4⟩ := p
    exact k _ _ p2 (.lst p1 p3 (p4.sub fun b q => q.1))
end

/-! the cells of a script: the first ones, and a zero cell -/
section
variable {K : PySem.W.Frag} {σ : L2.St} {H : Hp} {tb : TS} {g : TG} {D : Ends} {S : Addr} {ns : List Int}
theorem for_cells {m : Int} (hσ : σ[0]? = some (some (.ref S))) (hS : SqL K H S (ns.map V.int)) (hl : ns.length ≤ 63) (Pv : L2.St → Hp → Prop) (h0 : ∀ H0, Ex H H0 → Pv σ H0)
    (hd : ∀ H0, Ex H H0 → ∀ σ' H', Ex H0 H' → Pv σ' H' → D.nx σ' H')
    (hs : ∀ H0, Ex H H0 → ∀ (x : Int) σ' H', Ex H0 H' → Pv σ' H' → g (.int x) σ' H' fun σ2 H2 => tb { D with nx := fun σ2 H2 => Ex H0 H2 ∧ Pv σ2 H2, ct := fun σ2 H2 => Ex H0 H2 ∧ Pv σ2 H2, bk := D.nx } σ2 H2) :
    tFor (iList K (tOp rCat (tSl (rSlL K) (tVar 0) tNoPart (tPart (tC (.int m)))) (tLst (tCons (tC (.int 0)) tNil)))) g tb D σ H := by
  have main : ∀ (p p2 p3 : Addr) (cs : List V), H p = none → upd H p (.lst cs) p2 = none → upd (upd H p (.lst cs)) p2 (.lst [.int 0]) p3 = none → cs = cutV (ns.map V.int) none (some m) →
      ForI (Itl K) (fun H a => ∃ xs, SqL K H a xs) g tb D σ (.ref p3) (upd (upd (upd H p (.lst cs)) p2 (.lst [.int 0])) p3 (.lst (cs ++ [.int 0]))) := by
    rintro p p2 p3 cs hp hp2 hp3 hc
    obtain ⟨ms, hm⟩ : ∃ ms : List Int, cs ++ [V.int 0] = ms.map V.int := by
      subst hc
      unfold cutV
      refine ⟨(ns.drop (HT.sIx (ns.map V.int).length 0 none)).take (HT.sIx (ns.map V.int).length (ns.map V.int).length (some m) - HT.sIx (ns.map V.int).length 0 none) ++ [0], ?_⟩
      rw [List.map_append, List.map_take, List.map_drop]
      rfl
    rw [hm]
    have e := ((exn (o := .lst cs) hp).trans (exn (o := .lst [V.int 0]) hp2)).trans (exn (o := .lst (ms.map V.int)) hp3)
    have hL : ∀ H', Ex (upd (upd (upd H p (.lst cs)) p2 (.lst [.int 0])) p3 (.lst (ms.map V.int))) H' → SqL K H' p3 (ms.map V.int) := fun H' e => Evl.ex_l e (sq_l upd_same)
    generalize upd (upd (upd H p (.lst cs)) p2 (.lst [.int 0])) p3 (.lst (ms.map V.int)) = H0 at *
    refine forL_in (hL H0 (.refl _)) (fun _ σ' H' => Ex H0 H' ∧ Pv σ' H') ⟨.refl _, h0 H0 e⟩ (fun i σ' H' _ h => hL H' h.1) (fun σ' H' h => hd H0 e σ' H' h.1 h.2) fun i x σ' H' hx h => ?_
    rw [List.getElem?_map] at hx
    obtain ⟨y, _, rfl⟩ := Option.map_eq_some_iff.mp hx
    exact hs H0 e y σ' H' h.1 h.2
  simp only [tFor_lst]
  refine ⟨_, hσ, m, rfl, S, _, rfl, hS, ?_⟩
  intro p hp
  simp only [tLst, tCons, tC, tNil, rCat]
  refine ⟨by rw [sizeLine_eq]; decide, ?_⟩
  intro p2 hp2
  exact ⟨p, p2, _, _, rfl, rfl, exn hp2 _ _ upd_same, upd_same, by
    have := cutV_length (ns.map V.int) none (some m)
    rw [List.length_map] at this
    rw [sizeLine_eq]
    show _ + 1 ≤ _
    omega, fun p3 hp3 => main p p2 p3 _ hp hp2 hp3 rfl⟩
end

/-! comprehensions over any walked thing, a turn at a time -/
section
variable {K : PySem.W.Frag} {σ : L2.St} {H : Hp} {ta : TA} {te : TE} {tt : TT} {g : TG} {vs : List Nat} {Q : VK} {a : Addr} {xs : List V} {J : It} {n : Nat} {G : Hp → Prop} {Y : Nat → Hp → V → Hp → Prop}
theorem LcAtF.no {f : Nat → Bool} {d : Nat → PyData} {D : Addr} {i : Nat} {H' H2 : Hp} (p : LcAtF H D f d i H') (hf : f i = false) (e : Ex H' H2) : LcAtF H D f d (i + 1) H2 := by
  obtain ⟨p1, p2, ys, p3, p4⟩ := p
  refine ⟨p1, p2.trans e, ys, e D _ p3, ?_⟩
  rw [List.range_succ, List.filter_append, List.filter_cons_of_neg (by simp [hf]), List.filter_nil, List.append_nil]
  exact p4.ex e
theorem LcAtF.yes {f : Nat → Bool} {d : Nat → PyData} {D : Addr} {i : Nat} {H' H2 : Hp} {v : V} (p : LcAtF H D f d i H') (hi : i < 1000000) (hf : f i = true) (e : Ex H' H2) (hv : Rp H2 (New H') v (d i)) :
    ∃ acc, H2 D = some (.lst acc) ∧ acc.length < sizeLine ∧ LcAtF H D f d (i + 1) (upd H2 D (.lst (acc ++ [v]))) := by
  obtain ⟨p1, p2, ys, p3, p4⟩ := p
  have len : ys.length ≤ i := by
    rw [p4.len, List.length_map]
    have := List.length_filter_le f (List.range i)
    rw [List.length_range] at this
    exact this
  have keep : ∀ (b : Addr) (o : HO), New H b ∧ b ≠ D → H2 b = some o → (upd H2 D (.lst (ys ++ [v]))) b = some o := fun b o m q => by rw [upd_ne m.2]; exact q
  refine ⟨ys, e D _ p3, ?_, p1, Mo.ex_new (p2.trans e) p1 Mo.upd, ys ++ [v], upd_same, ?_⟩
  · rw [sizeLine_eq]; omega
  · rw [List.range_succ, List.filter_append, List.filter_cons_of_pos hf, List.filter_nil, List.map_append]
    refine RpA.app ((p4.ex e).keep keep fun _ q => q) (.cons ?_ .nil)
    exact (hv.sub fun b q => ⟨Evl.fresh_back p2 q, lc_step.ne_of_none' q p3⟩).keep keep fun _ q => q
/-- what a comprehension does with what it walks -/
def LcJ (J : It) (g : TG) (tt : TT) (te : TE) (vs : List Nat) (σ : L2.St) (Q : VK) (H1 : Hp) : Prop := ∀ D, H1 D = none → ∃ W : Nat → Nat → Hp → Prop, (∃ m, W 0 m (upd H1 D (.lst []))) ∧ ∀ i m H, W i m H →
  (J.stop i H ∧ Q (.ref D) H) ∨ (J.go i H ∧ ∃ Nx : Hp → Prop, (∀ H', Nx H' → ∃ m', m' < m ∧ W (i + 1) m' H') ∧ ∀ x H', J.yld i H x H' → g x (wipe σ vs) H' fun σ2 H2 => wipe σ2 vs = wipe σ vs ∧ tt σ2 H2 fun b H3 =>
    if b = true then te σ2 H3 fun y H4 => ∃ acc, H4 D = some (.lst acc) ∧ acc.length < sizeLine ∧ Nx (upd H4 D (.lst (acc ++ [y]))) else Nx H3)
theorem lcJ_in (w : Walk J n G Y) (hY : ∀ i H x H', Y i H x H' → Ex H H') (f : Nat → Bool) (d : Nat → PyData) (hn : n ≤ 1000000) (hG : ∀ H', Ex H H' → G H')
    (hs : ∀ (i : Nat) x H1 H2, i < n → Ex H H1 → Y i H1 x H2 → ∀ (R : Hp → Prop) (Rt : VK), (f i = false → ∀ H3, Ex H2 H3 → R H3) → (f i = true → ∀ v H3, Ex H2 H3 → Rp H3 (New H2) v (d i) → Rt v H3) →
      g x (wipe σ vs) H2 fun σ2 H3 => wipe σ2 vs = wipe σ vs ∧ tt σ2 H3 fun b H4 => if b = true then te σ2 H4 Rt else R H4)
    (k : ∀ v H', Ex H H' → Rp H' (New H) v (.list (((List.range n).filter f).map d)) → Q v H') : LcJ J g tt te vs σ Q H := by
  intro D hD
  refine lc_it w (LcAtF H D f d) (.start hD) (fun i H' _ p => hG H' p.2.1) (fun i x H1 H2 hi p y => ?_) (fun H' p => ?_)
  · have e := hY _ _ _ _ y
    refine hs i x H1 H2 hi p.2.1 y _ _ (fun hf H3 e3 => p.no hf (e.trans e3)) fun hf v H3 e3 hv => p.yes (by omega) hf (e.trans e3) (hv.sub fun b q => Evl.fresh_back e q)
  · obtain ⟨p1, p2, ys, p3, p4⟩ := p
    exact k _ _ p2 (.lst p1 p3 (p4.sub fun b q => q.1))
theorem lcL_g (hx : SqL K H a xs) (f : Nat → Bool) (d : Nat → PyData) (hn : xs.length ≤ 1000000)
    (hs : ∀ (i : Nat) x H1, xs[i]? = some x → Ex H H1 → ∀ (R : Hp → Prop) (Rt : VK), (f i = false → ∀ H3, Ex H1 H3 → R H3) → (f i = true → ∀ v H3, Ex H1 H3 → Rp H3 (New H1) v (d i) → Rt v H3) →
      g x (wipe σ vs) H1 fun σ2 H3 => wipe σ2 vs = wipe σ vs ∧ tt σ2 H3 fun b H4 => if b = true then te σ2 H4 Rt else R H4)
    (k : ∀ v H', Ex H H' → Rp H' (New H) v (.list (((List.range xs.length).filter f).map d)) → Q v H') : LcI (Itl K) (fun H a => ∃ xs, SqL K H a xs) g tt te vs σ Q (.ref a) H := by
  refine ⟨a, rfl, ⟨xs, hx⟩, lcJ_in walk_list ?_ f d hn (fun H' e => Evl.ex_l e hx) ?_ k⟩
  · rintro i H1 x H2 ⟨rfl, _⟩
    exact .refl _
  · rintro i x H1 H2 hi e ⟨rfl, h2⟩ R Rt k1 k2
    exact hs i x _ h2 e R Rt k1 k2
theorem range_map {α β : Type} (l : List α) (f : α → β) (d : Nat → β) (h : ∀ i x, l[i]? = some x → d i = f x) : ((List.range l.length).filter fun _ => true).map d = l.map f := by
  rw [List.filter_eq_self.mpr (fun _ _ => rfl)]
  refine List.ext_getElem? fun i => ?_
  rw [List.getElem?_map, List.getElem?_map]
  by_cases q : i < l.length
  · rw [List.getElem?_range q, List.getElem?_eq_getElem q]
    exact congrArg some (h i _ (List.getElem?_eq_getElem q))
  · rw [List.getElem?_eq_none (by rw [List.length_range]; omega), List.getElem?_eq_none (by omega)]
    rfl
theorem tLc_enum : tLc (iEnum K ta) g tt te vs σ H Q = ta σ H fun us H1 => ∃ a xs, us = [.ref a] ∧ SqL K H1 a xs ∧ LcJ (Ite K a) g tt te vs σ Q H1 := rfl
theorem lcE_in (hx : SqL K H a xs) (f : Nat → Bool) (d : Nat → PyData) (hn : xs.length ≤ 1000000)
    (hs : ∀ (i : Nat) x T H1, xs[i]? = some x → Ex H H1 → H1 T = some (.tup [.int (i : Nat), x]) → ∀ (R : Hp → Prop) (Rt : VK), (f i = false → ∀ H3, Ex H1 H3 → R H3) → (f i = true → ∀ v H3, Ex H1 H3 → Rp H3 (New H1) v (d i) → Rt v H3) →
      g (.ref T) (wipe σ vs) H1 fun σ2 H3 => wipe σ2 vs = wipe σ vs ∧ tt σ2 H3 fun b H4 => if b = true then te σ2 H4 Rt else R H4)
    (k : ∀ v H', Ex H H' → Rp H' (New H) v (.list (((List.range xs.length).filter f).map d)) → Q v H') : LcJ (Ite K a) g tt te vs σ Q H := by
  refine lcJ_in walk_enum ?_ f d hn (fun H' e => Evl.ex_l e hx) ?_ k
  · rintro i H1 x H2 ⟨T, x1, y1, rfl, hT, rfl, _⟩
    exact exn hT
  · rintro i x H1 H2 hi e ⟨T, x1, y1, rfl, hT, rfl, h1, h2⟩ R Rt k1 k2
    cases h1
    exact hs i y1 T _ h2 (e.trans (exn hT)) upd_same R Rt k1 k2
end
theorem tup_fine {ns : List Int} (h : ∀ i ∈ ns, -MED < i ∧ i < MED) (hl : ns.length ≤ 1000) : fine 20 (.tuple (ns.map PyData.int)) = true ∧ sz (.tuple (ns.map PyData.int)) ≤ 16000000 := by
  refine ⟨fineAll_ints fun i hi => med_log (h i hi).1 (h i hi).2, ?_⟩
  show szAll (ns.map PyData.int) + 3 ≤ 16000000
  rw [szAll_ints]
  omega
theorem lst_fine {ns : List Int} (h : ∀ i ∈ ns, -MED < i ∧ i < MED) (hl : ns.length ≤ 1000) : fine 20 (.list (ns.map PyData.int)) = true ∧ sz (.list (ns.map PyData.int)) ≤ 16000000 := by
  refine ⟨fineAll_ints fun i hi => med_log (h i hi).1 (h i hi).2, ?_⟩
  show szAll (ns.map PyData.int) + 3 ≤ 16000000
  rw [szAll_ints]
  omega
theorem dp_tup {K : PySem.W.Frag} {H : Hp} {a : Addr} {ns : List Int} (h : H a = some (.tup (ns.map V.int))) : Dp K H (.ref a) (.tuple (ns.map PyData.int)) := .tup (sq_t h) dpa_ints
theorem dp_lst {K : PySem.W.Frag} {H : Hp} {a : Addr} {ns : List Int} (h : H a = some (.lst (ns.map V.int))) : Dp K H (.ref a) (.list (ns.map PyData.int)) := .lst (sq_l h) dpa_ints
theorem hu1 {k : Nat} {A : Around} (r : Room k A) : A.units + 1 < cLine := by have := r.units; omega
theorem filter_range (n a b : Nat) (ha : a ≤ b) (hb : b ≤ n) : (List.range n).filter (fun i => decide (a ≤ i ∧ i < b)) = (List.range (b - a)).map (a + ·) := by
  induction n generalizing b with
  | zero =>
    rw [show b - a = 0 by omega]; rfl
  | succ n ih =>
    rw [List.range_succ, List.filter_append]
    by_cases h : b = n + 1
    · subst h
      by_cases h2 : a = n + 1
      · subst h2
        rw [Nat.sub_self, List.filter_eq_nil_iff.mpr (fun i hi h => by have := of_decide_eq_true h; omega), List.filter_cons_of_neg (by simp)]
        rfl
      · rw [show n + 1 - a = n - a + 1 by omega, List.range_succ, List.map_append, List.filter_cons_of_pos (by simp; omega), List.filter_nil, ← ih n (by omega) (Nat.le_refl _)]
        have e1 : (List.range n).filter (fun i => decide (a ≤ i ∧ i < n + 1)) = (List.range n).filter (fun i => decide (a ≤ i ∧ i < n)) := List.filter_congr fun i hi => by
          have := List.mem_range.mp hi
          exact decide_eq_decide.mpr (by omega)
        rw [e1, List.map_cons, List.map_nil, show a + (n - a) = n by omega]
    · rw [ih b ha (by omega), List.filter_cons_of_neg (by simp; omega), List.filter_nil, List.append_nil]

/-! ### isinstance by the name of a type -/
/-- v is the int n (some n), or no int (a bool is none) -/
def NotInt (K : PySem.W.Frag) (H : Hp) (v : V) : Prop := ∃ t b1 b2, TyX K H v (.type t) ∧ kitB t "int" = some b1 ∧ kitB t "bool" = some b2 ∧ (b1 && !b2) = false
def IntOr (K : PySem.W.Frag) (H : Hp) (v : V) : Option Int → Prop
  | some n => v = .int n
  | none => NotInt K H v
def whole (o : Option Int) (lo hi : Int) : Bool := match o with
  | some n => decide (lo ≤ n ∧ n ≤ hi)
  | none => false
theorem kit_int_int : kitB "int" "int" = some true := by decide +kernel
theorem kit_int_bool : kitB "int" "bool" = some false := by decide +kernel

theorem atI_0 {α : Type} {a : α} {l : List α} : atI (a :: l) 0 = some a := atI_nat (j := 0) rfl
theorem atI_1 {α : Type} {a b : α} {l : List α} : atI (a :: b :: l) 1 = some b := atI_nat (j := 1) rfl
theorem atI_2 {α : Type} {a b c : α} {l : List α} : atI (a :: b :: c :: l) 2 = some c := atI_nat (j := 2) rfl
theorem atI_3 {α : Type} {a b c d : α} {l : List α} : atI (a :: b :: c :: d :: l) 3 = some d := atI_nat (j := 3) rfl
theorem atI_4 {α : Type} {a b c d e : α} {l : List α} : atI (a :: b :: c :: d :: e :: l) 4 = some e := atI_nat (j := 4) rfl
theorem atI_5 {α : Type} {a b c d e f : α} {l : List α} : atI (a :: b :: c :: d :: e :: f :: l) 5 = some f := atI_nat (j := 5) rfl
theorem atI_m1 {α : Type} {xs : List α} {v : α} (h : xs[xs.length - 1]? = some v) : atI xs (-1) = some v := by
  have hl := (List.getElem?_eq_some_iff.mp h).1
  unfold atI ixN
  rw [if_neg (by decide), if_pos (by omega)]
  show xs[((-1 : Int) + (xs.length : Int)).toNat]? = some v
  rw [show ((-1 : Int) + (xs.length : Int)).toNat = xs.length - 1 by omega]
  exact h
theorem atI_of {α : Type} {xs : List α} {i : Int} {j : Nat} {v : α} (e : i = (j : Int)) (h : xs[j]? = some v) : atI xs i = some v := by rw [e]; exact atI_nat h
theorem ixN_of {n j : Nat} {i : Int} (e : i = (j : Int)) (h : j < n) : ixN n i = some j := by rw [e]; exact Evl.ixN_nat h
theorem ixN_30 : ixN 3 0 = some 0 := by decide
theorem ixN_31 : ixN 3 1 = some 1 := by decide
theorem ixN_32 : ixN 3 2 = some 2 := by decide
theorem iteN {c A B : Prop} [Decidable c] (h : c) (b : B) : if ¬ c then A else B := by rw [if_neg (fun n => n h)]; exact b
theorem iteY {c A B : Prop} [Decidable c] (h : c) (a : A) : if c then A else B := by rw [if_pos h]; exact a
theorem iteNo {c A B : Prop} [Decidable c] (h : ¬ c) (b : B) : if c then A else B := by rw [if_neg h]; exact b
theorem iteTF {A B : Prop} (h : B) : if true = false then A else B := by rw [if_neg (by decide)]; exact h
theorem iteFF {A B : Prop} (h : A) : if false = false then A else B := by rw [if_pos rfl]; exact h
/-! ### bounds -/
theorem big_pow {a b : Nat} (h : a * b < 100000) {x y : Nat} (hx : x ≤ 2 ^ a) (hy : y ≤ b) : ((x ^ y : Nat) : Int) < BIG := by
  have h1 : x ^ y ≤ (2 ^ a) ^ b := Nat.le_trans (Nat.pow_le_pow_left hx y) (Nat.pow_le_pow_right (Nat.pow_pos (by decide)) hy)
  rw [← Nat.pow_mul] at h1
  have h2 : (2 : Nat) ^ (a * b) < 2 ^ 100000 := Nat.pow_lt_pow_right (by decide) h
  have h3 : x ^ y < 2 ^ 100000 := Nat.lt_of_le_of_lt h1 h2
  unfold BIG
  have e : ((2 : Int) ^ 100000) = ((2 ^ 100000 : Nat) : Int) := by rw [Int.natCast_pow] <;> rfl
  rw [e]
  exact Int.ofNat_lt.mpr h3

/-! ### the end of a law -/
/-- what is known of a law's script -/
theorem passX {P : Program} {w : World} {fr : List Env} {H : Hp} {s s' : Shared} {e : Value} (h : L2.CX P w fr H s (fun _ _ _ => False) e s') : False := by
  obtain ⟨_, _, _, _, _, _, _, _, _, _, _, _, z⟩ := h
  exact z.elim
theorem med_pow {a b : Nat} (h : a * b < 1900) {x y : Nat} (hx : x ≤ 2 ^ a) (hy : y ≤ b) : ((x ^ y : Nat) : Int) < MED := by
  have h1 : x ^ y ≤ (2 ^ a) ^ b := Nat.le_trans (Nat.pow_le_pow_left hx y) (Nat.pow_le_pow_right (Nat.pow_pos (by decide)) hy)
  rw [← Nat.pow_mul] at h1
  have h2 : (2 : Nat) ^ (a * b) < 2 ^ 1900 := Nat.pow_lt_pow_right (by decide) h
  have h3 : x ^ y < 2 ^ 1900 := Nat.lt_of_le_of_lt h1 h2
  unfold MED
  have e : ((2 : Int) ^ 1900) = ((2 ^ 1900 : Nat) : Int) := by rw [Int.natCast_pow] <;> rfl
  rw [e]
  exact Int.ofNat_lt.mpr h3
theorem law_go {P : Program} {w : World} {K : PySem.W.Frag} {mg mb : Str → Option Value} {k : Nat} {fa a : Addr} {fd : FuncData} {x : Str} {sp : Sp} {s : Shared} {vs : List Value} {ns : List Int}
    (inK : K.In s.heap) (hns : s.heap.Ns mainGlobals mg) (hb : s.heap.Ns builtinsNs mb) (hbb : ∀ x : Str, x ≠ "__name__" → mb x = bootBuiltins x)
    (lim : s.heap.NoLimit) (hg : s.gens = #[]) (ha : s.heap.get? a = some { cls := .type "list", data := .seq vs.toArray })
    (hi : IntsAre vs ns) (hl : ns.length ≤ sizeLine) (hr : Room k callerA)
    (F : ∀ base : Heap, K.In base → base.Ns mainGlobals mg → GOk P w K mg base (L2.CX P w) k fa fd [x] sp)
    (bind : ∀ (s : Shared) (u : Value), BindsTo s fd ⟨[u], []⟩ [(x, u)])
    (hsp : ∀ H : Hp, Only H → SqL K H a (ns.map V.int) → sp [.ref a] H (fun v _ => v = .bl true) fun _ _ _ => False) :
    codeAny (model P w) callerA (.call (.ref fa) ⟨[.ref a], []⟩) (fun r s' => r = .ok (.ret (.bool true)) ∧ OldK s.heap s'.heap ∧ s'.os = s.os ∧ AllBare s'.gens) s := by
  have rv := vals_ints hi
  have lenV := hi.length
  suffices main : ∀ H : Hp, Only H → SqL K H a (ns.map V.int) → HOk P w H s.heap → (∀ b o, H b = some o → b = a ∧ K.lookup a = none) →
      codeAny (model P w) callerA (.call (.ref fa) ⟨[.ref a], []⟩) (fun r s' => r = .ok (.ret (.bool true)) ∧ OldK s.heap s'.heap ∧ s'.os = s.os ∧ AllBare s'.gens) s by
    cases hk : K.lookup a with
    | some o =>
      have e := (inK a o hk).symm.trans ha
      cases e
      exact main (fun _ => none) (fun _ => .inl rfl) (.inr ⟨_, vs.toArray, _, hk, rfl, rfl, rfl, by rw [List.size_toArray, lenV]; exact hl, by simpa using rv⟩)
        (fun _ _ z => nomatch z) (fun _ _ z => nomatch z)
    | none =>
      let ob : Obj := { cls := .type "list", data := .seq vs.toArray }
      have at_ : ∀ b u, (if b = a then some (HO.frz ob (.lst (ns.map V.int))) else none) = some u → b = a ∧ u = .frz ob (.lst (ns.map V.int)) := fun b u z => by
        by_cases q : b = a
        · rw [if_pos q] at z; exact ⟨q, (Option.some.inj z).symm⟩
        · rw [if_neg q] at z; cases z
      refine main (fun b => if b = a then some (.frz ob (.lst (ns.map V.int))) else none) (fun b => ?_) (.inl (.inr ⟨ob, if_pos rfl⟩)) (fun b u z => ?_) (fun b u z => ⟨(at_ b u z).1, hk⟩)
      · by_cases q : b = a
        · exact .inr ⟨_, _, if_pos q⟩
        · exact .inl (if_neg q)
      · obtain ⟨rfl, rfl⟩ := at_ b u z
        exact ⟨ha, by rw [List.length_map]; exact hl, vs, _, rv, ha⟩
  intro H hO hS hok hA
  have seen : ∀ {b : Addr} {o : Obj}, s.heap.get? b = some o → H b = none → (hidT s.heap H).get? b = some o := fun e n => hidT_get e n
  have nsK : ∀ {b : Addr} {m : Str → Option Value}, s.heap.Ns b m → (hidT s.heap H).Ns b m := by
    rintro b m ⟨o, es, ep, e, d, r⟩
    refine ⟨o, es, ep, seen e ?_, d, r⟩
    cases q : H b with
    | none => rfl
    | some u =>
      rw [(hA b u q).1, ha] at e
      cases e
      cases (show Data.seq vs.toArray _ = Data.dict es ep from d)
  have KB : K.In (hidT s.heap H) := fun b o e => seen (inK b o e) (by
    cases q : H b with
    | none => rfl
    | some u =>
      obtain ⟨e1, e2⟩ := hA b u q
      rw [e1, e2] at e
      cases e)
  obtain ⟨mc, l1, l2⟩ := lim
  have M : Mod K mg (hidT s.heap H) := ⟨KB, nsK hns, ⟨mb, nsK hb, hbb⟩, ⟨mc, nsK l1, l2⟩⟩
  have e0 : Env0 P w K mg (hidT s.heap H) callerA [] s H :=
    ⟨rfl, M, fun b o e => of_hidT e, Nat.le_of_eq (hidT_size _ _), trivial, fun b hb => (List.not_mem_nil (show b ∈ ([] : List Addr) from hb)).elim, hok, .of_eq hg⟩
  refine codeAny_mono ((F _ KB (nsK hns)).go callerA [] s H ⟨[.ref a], []⟩ [.ref a] [.ref a] _ _ hr rfl e0 (bind s (.ref a)) (.cons rfl .nil) (hsp H hO hS)) ?_
  rintro (e | fl) s' h
  · exact (passX h).elim
  · cases fl with
    | ret u =>
      obtain ⟨v, H', os, bare, un, hok', r', q⟩ := h
      cases (show v = .bl true from q)
      cases (show u = Value.bool true from r')
      refine ⟨rfl, OldK.of_keep fun b o e => ?_, os, bare⟩
      cases q : H b with
      | none => exact un.keep b o e q (fun z => List.not_mem_nil (show b ∈ ([] : List Addr) from z)) (by simp)
      | some u =>
        rcases hO b with z | ⟨ob, xs, z⟩
        · rw [q] at z; cases z
        · have e1 : s.heap.get? b = some ob := (hok b _ z).1
          have e2 : s'.heap.get? b = some ob := (hok' b _ (un.frzs b ob _ z)).1
          rw [e1] at e
          rw [e2, e]
    | _ => exact h.elim
/-- the goal behind the head, from the promise of the law's def -/
theorem walk_g {l : PySem.W.OpenLaw} {n k : Nat} {q : Program} {loose : List Str} {XP : (Str → Option Value) → Heap → Prop} {YP : World → Heap → Prop} {d : DefRec} {x : Str}
    (hn : l.most = some n) (hn2 : n ≤ sizeLine) (hdf : d.params.defaults = []) (hr : Room k callerA)
    (F : ∀ (w : World) (mg : Str → Option Value) (fa : Addr) (h : Heap), YP w h → h.Ns mainGlobals mg → mg d.name = some (.ref fa) →
      ∃ (K : PySem.W.Frag) (fd : FuncData) (sp : Sp), K.In h ∧ (∀ (s : Shared) (u : Value), BindsTo s fd ⟨[u], []⟩ [(x, u)]) ∧
        (∀ (H : Hp) (a : Addr) (ns : List Int), ns.length ≤ n → Only H → SqL K H a (ns.map V.int) → sp [.ref a] H (fun v _ => v = .bl true) fun _ _ _ => False) ∧
        ∀ base : Heap, K.In base → base.Ns mainGlobals mg → GOk l.prog w K mg base (L2.CX l.prog w) k fa fd [x] sp) :
    PySem.W.WalkO q loose XP YP l.row.toRowW d [] (fun f vs => PySem.call f vs) := by
  refine Att.attach_call hn hdf ?_
  intro w s₀ s₁ mg mb fa o pm cd doc a vs ns G Y ho hd hcd hmg hobj hints hlen hg
  obtain ⟨K, fd, sp, KX, hb, hsp, hF⟩ := F w mg fa _ Y G.T.g hmg
  exact law_go KX G.T.g G.T.b G.T.builtins G.T.nolimit hg hobj hints (Nat.le_trans hlen hn2) hr hF hb fun H hO hS => hsp H a ns hlen hO hS
theorem law_in {K : PySem.W.Frag} {H : Hp} {a : Addr} {ns : List Int} (hl : ns.length ≤ 63) (hS : SqL K H a (ns.map V.int)) {Q : VK} {E : XK} (hQ : ∀ H', Q (.bl true) H') :
    sp1 (fun x H Q _ => ∃ (a : Addr) (ns : List Int), x = .ref a ∧ SqL K H a (ns.map V.int) ∧ ns.length ≤ 63 ∧ ∀ H', Q (.bl true) H') [.ref a] H Q E := ⟨_, rfl, a, ns, rfl, hS, hl, hQ⟩
end Bs

namespace Bs
/-! ### reaches: the ways to choose, by adding up -/
def R : Nat → Nat → Nat
  | 0 => fun _ => 1
  | s + 1 => fun r => Nat.rec (motive := fun _ => Nat) 1 (fun k ih => R s (k + 1) + ih) r
theorem R_z (s : Nat) : R s 0 = 1 := by cases s <;> rfl
theorem R_0 (r : Nat) : R 0 r = 1 := rfl
theorem R_ss (s r : Nat) : R (s + 1) (r + 1) = R s (r + 1) + R (s + 1) r := rfl
theorem R_comm : ∀ s r : Nat, R s r = R r s
  | 0, r => by rw [R_0, R_z]
  | s + 1, 0 => by rw [R_0, R_z]
  | s + 1, r + 1 => by rw [R_ss, R_ss, R_comm s (r + 1), R_comm (s + 1) r, Nat.add_comm]
theorem R_pos (s r : Nat) : 0 < R s r := by
  induction s generalizing r with
  | zero => rw [R_0]; decide
  | succ s ih =>
    cases r with
    | zero => rw [R_z]; decide
    | succ r => rw [R_ss]; have := ih (r + 1); omega
/-- one slot more: times s + r + 1, over s + 1 -/
theorem R_up : ∀ s r : Nat, R (s + 1) r * (s + 1) = R s r * (s + r + 1)
  | 0, 0 => rfl
  | 0, r + 1 => by
    have ih := R_up 0 r
    rw [R_0] at ih ⊢
    rw [R_ss, R_0]
    omega
  | s + 1, 0 => by rw [R_z, R_z]
  | s + 1, r + 1 => by
    have h1 := R_up s (r + 1)
    have h2 := R_up (s + 1) r
    rw [R_ss (s + 1) r, Nat.add_mul, h2]
    rw [R_ss s r]
    rw [R_ss s r] at h1
    -- h1: (A + B)(s+1) = A (s + r + 2), A = R s (r+1), B = R (s+1) r
    generalize R s (r + 1) = A at *
    generalize R (s + 1) r = B at *
    have e1 : (A + B) * (s + 1) = A * s + A + B * s + B := by
      rw [Nat.mul_add, Nat.add_mul, Nat.mul_one]; omega
    have e2 : A * (s + (r + 1) + 1) = A * s + A * r + A + A := by
      rw [Nat.mul_add, Nat.mul_add, Nat.mul_add]; omega
    have e3 : (A + B) * (s + 1 + 1) = A * s + B * s + A + A + B + B := by
      rw [Nat.mul_add, Nat.mul_add, Nat.add_mul]; omega
    have e4 : B * (s + 1 + r + 1) = B * s + B + B * r + B := by
      rw [Nat.mul_add, Nat.mul_add, Nat.mul_add]; omega
    have e6 : ∀ X : Nat, X * (s + 1 + (r + 1) + 1) = X * s + X * r + X + X + X := fun X => by
      rw [Nat.mul_add, Nat.mul_add, Nat.mul_add, Nat.mul_add]; omega
    have e5 : (A + B) * (s + 1 + (r + 1) + 1) = A * s + A * r + A + A + A + (B * s + B * r + B + B + B) := by
      rw [Nat.add_mul, e6, e6]
    rw [e1, e2] at h1
    rw [e3, e4, e5]
    omega
theorem R_right (s r : Nat) : R s (r + 1) * (r + 1) = R s r * (s + r + 1) := by
  rw [R_comm s (r + 1), R_up r s, R_comm r s, Nat.add_comm r s]
theorem R_le : ∀ s r : Nat, R s r ≤ (r + 1) ^ s
  | 0, r => by rw [R_0, Nat.pow_zero]; exact Nat.le_refl _
  | s + 1, 0 => by rw [R_z]; exact Nat.pos_of_ne_zero (by simp)
  | s + 1, r + 1 => by
    have h1 := R_le s (r + 1)
    have h2 := R_le (s + 1) r
    rw [R_ss, Nat.pow_succ, Nat.mul_add, Nat.mul_one]
    have h3 : (r + 1) ^ (s + 1) ≤ (r + 1 + 1) ^ s * (r + 1) := by
      rw [Nat.pow_succ]
      exact Nat.mul_le_mul_right _ (Nat.pow_le_pow_left (Nat.le_succ _) s)
    omega
theorem R_mono_r (s r : Nat) : R s r ≤ R s (r + 1) := by
  cases s with
  | zero => exact Nat.le_refl _
  | succ s => rw [R_ss]; omega
theorem R_mono {s r r' : Nat} (h : r ≤ r') : R s r ≤ R s r' := by
  induction h with
  | refl => exact Nat.le_refl _
  | step _ ih => exact Nat.le_trans ih (R_mono_r _ _)
theorem R_mono_l {s s' r : Nat} (h : s ≤ s') : R s r ≤ R s' r := by
  rw [R_comm s, R_comm s']
  exact R_mono h
theorem R_one (r : Nat) : R 1 r = r + 1 := by
  induction r with
  | zero => rfl
  | succ r ih => rw [R_ss, R_0, ih]; omega
/-- with rounds that may be -1 -/
def Rz (s r : Int) : Int := if r < 0 then (if s ≤ 0 then 1 else 0) else (R s.toNat r.toNat : Nat)
theorem Rz_nat (s r : Nat) : Rz s r = (R s r : Nat) := by
  unfold Rz
  rw [if_neg (by omega)]
  rfl
theorem Rz_neg {s : Int} (h : 0 < s) : Rz s (-1) = 0 := by
  unfold Rz
  rw [if_pos (by omega), if_neg (by omega)]
theorem Rz_of {s r : Int} (hs : 0 ≤ s) (hr : 0 ≤ r) : Rz s r = (R s.toNat r.toNat : Nat) := by
  unfold Rz
  rw [if_neg (by omega)]
theorem Rz_zero {r : Int} : Rz 0 r = 1 := by
  unfold Rz
  split <;> rfl
theorem Rz_nonneg (s r : Int) : 0 ≤ Rz s r := by
  unfold Rz
  split
  · split <;> omega
  · omega
theorem Rz_pascal {s r : Int} (h1 : 1 < s) (h2 : 0 < r) : Rz s r = Rz (s - 1) r + Rz s (r - 1) := by
  obtain ⟨s, rfl⟩ := Int.eq_ofNat_of_zero_le (by omega : 0 ≤ s)
  obtain ⟨r, rfl⟩ := Int.eq_ofNat_of_zero_le (by omega : 0 ≤ r)
  obtain ⟨s, rfl⟩ : ∃ t, s = t + 1 := ⟨s - 1, by omega⟩
  obtain ⟨r, rfl⟩ : ∃ t, r = t + 1 := ⟨r - 1, by omega⟩
  rw [show ((s + 1 : Nat) : Int) - 1 = (s : Int) by omega, show ((r + 1 : Nat) : Int) - 1 = (r : Int) by omega, Rz_nat, Rz_nat, Rz_nat, R_ss]
  omega
theorem Rz_comm {s r : Int} (h1 : 0 ≤ s) (h2 : 0 ≤ r) : Rz s r = Rz r s := by
  rw [Rz_of h1 h2, Rz_of h2 h1, R_comm]
theorem Rz_one {r : Int} (h : 0 ≤ r) : Rz 1 r = r + 1 := by
  rw [Rz_of (by decide) h, show (1 : Int).toNat = 1 by rfl, R_one]
  omega
theorem Rz_r0 {s : Int} (h : 0 ≤ s) : Rz s 0 = 1 := by
  rw [Rz_of h (Int.le_refl _), show (0 : Int).toNat = 0 by rfl, R_z]
  rfl
/-- one turn of reach_of -/
theorem Rz_turn {j r : Int} (hj : 0 ≤ j) (hr : -1 ≤ r) : Rz j r * (r + (j + 1)) / (j + 1) = Rz (j + 1) r := by
  by_cases h : r < 0
  · have e : r = -1 := by omega
    subst e
    by_cases h0 : j = 0
    · subst h0; rfl
    · rw [Rz_neg (by omega), Rz_neg (by omega), Int.zero_mul, Int.zero_ediv]
  · obtain ⟨j, rfl⟩ := Int.eq_ofNat_of_zero_le hj
    obtain ⟨r, rfl⟩ := Int.eq_ofNat_of_zero_le (by omega : 0 ≤ r)
    have e1 : Rz (j : Int) r = (R j r : Nat) := Rz_nat j r
    have e2 : Rz ((j : Int) + 1) r = (R (j + 1) r : Nat) := Rz_nat (j + 1) r
    rw [e1, e2]
    have h := R_up j r
    have h2 : ((R j r : Nat) : Int) * ((r : Int) + ((j : Int) + 1)) = ((R (j + 1) r : Nat) : Int) * ((j : Int) + 1) := by
      have : (r : Int) + ((j : Int) + 1) = ((j + r + 1 : Nat) : Int) := by omega
      rw [this, show ((j : Int) + 1) = ((j + 1 : Nat) : Int) by omega, ← Int.natCast_mul, ← Int.natCast_mul, h]
    rw [h2]
    exact Int.mul_ediv_cancel _ (by omega)
/-- one turn of choosing from above: over n = s + r things, j of them -/
theorem R_turn {s r j : Nat} (hj : j < s + r) : R j (s + r - j) * (s + r - j) = R (j + 1) (s + r - (j + 1)) * (j + 1) := by
  obtain ⟨m, hm⟩ : ∃ m, s + r = j + 1 + m := ⟨s + r - (j + 1), by omega⟩
  rw [hm, show j + 1 + m - j = m + 1 by omega, show j + 1 + m - (j + 1) = m by omega]
  rw [R_right j m, R_up j m]
end Bs

namespace Bs
/-! ### rounds -/
def rhoA (s n : Nat) : Nat → Nat → Nat
  | 0, r => r
  | k + 1, r => if n ≤ R s r then r else rhoA s n k (r + 1)
/-- the least number of rounds that reach n states (1 slot or more) -/
def rhoN (n s : Nat) : Nat := rhoA s n n 0
theorem R_gt {s : Nat} (h : 1 ≤ s) (r : Nat) : r + 1 ≤ R s r := by
  have := R_mono_l (s := 1) (s' := s) (r := r) h
  rw [R_one] at this
  exact this
theorem rhoA_spec {s n : Nat} : ∀ (k r : Nat), n ≤ R s (r + k) → n ≤ R s (rhoA s n k r) ∧ r ≤ rhoA s n k r ∧ ∀ q, r ≤ q → q < rhoA s n k r → R s q < n
  | 0, r, h => ⟨h, Nat.le_refl _, fun q h1 h2 => by simp [rhoA] at h2; omega⟩
  | k + 1, r, h => by
    unfold rhoA
    split
    · rename_i h1
      exact ⟨h1, Nat.le_refl _, fun q h2 h3 => by omega⟩
    · rename_i h1
      obtain ⟨a, b, c⟩ := rhoA_spec k (r + 1) (by rw [show r + 1 + k = r + (k + 1) by omega]; exact h)
      refine ⟨a, by omega, fun q h2 h3 => ?_⟩
      by_cases e : q = r
      · subst e; omega
      · exact c q (by omega) h3
theorem rhoN_spec {n s : Nat} (h : 1 ≤ s) : n ≤ R s (rhoN n s) ∧ ∀ q, q < rhoN n s → R s q < n := by
  have h1 := R_gt h n
  obtain ⟨a, b, c⟩ := rhoA_spec (s := s) (n := n) n 0 (by rw [Nat.zero_add]; omega)
  exact ⟨a, fun q hq => c q (Nat.zero_le _) hq⟩
theorem rhoN_eq {n s r : Nat} (h : 1 ≤ s) (h1 : n ≤ R s r) (h2 : ∀ q, q < r → R s q < n) : rhoN n s = r := by
  obtain ⟨a, b⟩ := rhoN_spec (n := n) h
  rcases Nat.lt_trichotomy (rhoN n s) r with h3 | h3 | h3
  · have := h2 _ h3; omega
  · exact h3
  · have := b _ h3; omega
/-- the same over the ints -/
def rho (n s : Int) : Int := (rhoN n.toNat s.toNat : Nat)
theorem rho_nonneg (n s : Int) : 0 ≤ rho n s := by unfold rho; omega
theorem Rz_mono {s r r' : Int} (hs : 0 ≤ s) (h : r ≤ r') (h0 : -1 ≤ r) : Rz s r ≤ Rz s r' := by
  by_cases hr : r < 0
  · have e : r = -1 := by omega
    subst e
    by_cases h2 : s = 0
    · subst h2; rw [Rz_zero, Rz_zero]; exact Int.le_refl _
    · rw [Rz_neg (by omega)]; exact Rz_nonneg _ _
  · rw [Rz_of hs (by omega), Rz_of hs (by omega)]
    exact Int.ofNat_le.mpr (R_mono (by omega))
theorem Rz_gt {s r : Int} (hs : 1 ≤ s) (hr : 0 ≤ r) : r + 1 ≤ Rz s r := by
  rw [Rz_of (by omega) hr]
  have := R_gt (s := s.toNat) (by omega) r.toNat
  omega
theorem rho_reach {n s : Int} (hs : 1 ≤ s) : n ≤ Rz s (rho n s) := by
  unfold rho
  rw [Rz_of (by omega) (by omega)]
  have := (rhoN_spec (n := n.toNat) (s := s.toNat) (by omega)).1
  simp only [Int.toNat_natCast]
  omega
theorem rho_least {n s q : Int} (hn : 1 ≤ n) (hs : 1 ≤ s) (h0 : -1 ≤ q) (h : q < rho n s) : Rz s q < n := by
  by_cases hq : q < 0
  · have e : q = -1 := by omega
    subst e
    rw [Rz_neg (by omega)]; omega
  · rw [Rz_of (by omega) (by omega)]
    have := (rhoN_spec (n := n.toNat) (s := s.toNat) (by omega)).2 q.toNat (by unfold rho at h; omega)
    omega
theorem rho_eq {n s r : Int} (hn : 1 ≤ n) (hs : 1 ≤ s) (h0 : 0 ≤ r) (h1 : n ≤ Rz s r) (h2 : Rz s (r - 1) < n) : rho n s = r := by
  rcases Int.lt_trichotomy (rho n s) r with h | h | h
  · have a := rho_reach (n := n) hs
    have b := Rz_mono (s := s) (r := rho n s) (r' := r - 1) (by omega) (by omega) (by have := rho_nonneg n s; omega)
    omega
  · exact h
  · have := rho_least (q := r) hn hs (by omega) h
    omega
theorem rho_le {n s r : Int} (hn : 1 ≤ n) (hs : 1 ≤ s) (h0 : 0 ≤ r) : rho n s ≤ r ↔ n ≤ Rz s r := by
  constructor
  · intro h
    exact Int.le_trans (rho_reach hs) (Rz_mono (by omega) h (by have := rho_nonneg n s; omega))
  · intro h
    by_cases h2 : rho n s ≤ r
    · exact h2
    · have := rho_least (q := r) hn hs (by omega) (by omega)
      omega
theorem rho_lt {n s : Int} (hn : 1 ≤ n) (hs : 1 ≤ s) : rho n s < n := by
  have := (rho_le (n := n) (s := s) (r := n - 1) hn hs (by omega)).mpr (by have := Rz_gt (s := s) (r := n - 1) hs (by omega); omega)
  omega
/-! ### the least steps -/
def tz (n s : Int) : Int := rho n s * n - Rz (s + 1) (rho n s - 1)
/-- one round more or less is never more -/
theorem Rz_next {s r : Int} (hs : 0 ≤ s) (hr : 0 ≤ r) : Rz (s + 1) r = Rz s r + Rz (s + 1) (r - 1) := by
  by_cases h : r = 0
  · subst h
    rw [Rz_r0 (by omega), Rz_r0 hs, show (0 : Int) - 1 = -1 by rfl, Rz_neg (by omega)]
    rfl
  · by_cases h2 : s = 0
    · subst h2
      rw [show (0 : Int) + 1 = 1 by rfl, Rz_zero, Rz_one hr, Rz_one (by omega)]
      omega
    · have := Rz_pascal (s := s + 1) (r := r) (by omega) (by omega)
      rw [show s + 1 - 1 = s by omega] at this
      exact this
/-- the line of k rounds at n -/
def lin (n s k : Int) : Int := k * n - Rz (s + 1) (k - 1)
theorem lin_step {n s k : Int} (hs : 0 ≤ s) (hk : 0 ≤ k) : lin n s (k + 1) = lin n s k + (n - Rz s k) := by
  unfold lin
  rw [show k + 1 - 1 = k by omega, Rz_next hs hk, Int.add_mul, Int.one_mul]
  omega
theorem lin_up {n s : Int} (hs : 0 ≤ s) (k : Int) (hk : 0 ≤ k) : ∀ d : Nat, n ≤ Rz s k → lin n s (k + d) ≤ lin n s k
  | 0, _ => by simp
  | d + 1, h => by
    have ih := lin_up hs k hk d h
    have e := lin_step (n := n) (k := k + d) hs (by omega)
    have m := Rz_mono (s := s) (r := k) (r' := k + d) hs (by omega) (by omega)
    rw [show k + ((d + 1 : Nat) : Int) = k + d + 1 by omega, e]
    omega
theorem lin_down {n s : Int} (hs : 0 ≤ s) (k : Int) : ∀ d : Nat, 0 ≤ k - d → Rz s (k - 1) ≤ n → lin n s (k - d) ≤ lin n s k
  | 0, _, _ => by simp
  | d + 1, h0, h => by
    have ih := lin_down hs k d (by omega) h
    have e := lin_step (n := n) (k := k - (d + 1 : Nat)) hs h0
    have m := Rz_mono (s := s) (r := k - (d + 1 : Nat)) (r' := k - 1) hs (by omega) (by omega)
    rw [show k - ((d + 1 : Nat) : Int) + 1 = k - d by omega] at e
    omega
theorem tz_lin {n s : Int} : tz n s = lin n s (rho n s) := rfl
/-- t is the greatest of its lines -/
theorem tz_ge {n s k : Int} (hn : 1 ≤ n) (hs : 1 ≤ s) (hk : 0 ≤ k) : lin n s k ≤ tz n s := by
  rw [tz_lin]
  have h0 := rho_nonneg n s
  rcases Int.le_total (rho n s) k with h | h
  · have := lin_up (n := n) (s := s) (by omega) (rho n s) h0 (k - rho n s).toNat (rho_reach hs)
    rw [show rho n s + ((k - rho n s).toNat : Int) = k by omega] at this
    exact this
  · have h1 : Rz s (rho n s - 1) ≤ n := Int.le_of_lt (rho_least hn hs (by omega) (by omega))
    have := lin_down (n := n) (s := s) (by omega) (rho n s) (rho n s - k).toNat (by omega) h1
    rw [show rho n s - ((rho n s - k).toNat : Int) = k by omega] at this
    exact this
/-- .. and is the line of k rounds just where these reach -/
theorem tz_at {n s k : Int} (hn : 1 ≤ n) (hs : 1 ≤ s) (hk : 0 ≤ k) (h1 : Rz s (k - 1) ≤ n) (h2 : n ≤ Rz s k) : tz n s = lin n s k := by
  have h0 := rho_nonneg n s
  have hle : rho n s ≤ k := (rho_le hn hs hk).mpr h2
  by_cases e : rho n s = k
  · rw [tz_lin, e]
  · have hr := rho_reach (n := n) hs
    have hm := Rz_mono (s := s) (r := rho n s) (r' := k - 1) (by omega) (by omega) (by omega)
    have a := tz_ge (k := k) hn hs hk
    have b := lin_down (n := n) (s := s) (by omega) k (k - rho n s).toNat (by omega) h1
    rw [show k - ((k - rho n s).toNat : Int) = rho n s by omega] at b
    rw [tz_lin] at a ⊢
    omega
theorem tz_gt {n s k : Int} (hn : 1 ≤ n) (hs : 1 ≤ s) (hk : 0 ≤ k) (h : n < Rz s (k - 1) ∨ Rz s k < n) : lin n s k < tz n s := by
  rcases h with h | h
  · have hk1 : 1 ≤ k := by
      by_cases e : k = 0
      · subst e
        rw [show (0 : Int) - 1 = -1 by rfl, Rz_neg (by omega)] at h
        omega
      · omega
    have a := tz_ge (k := k - 1) hn hs (by omega)
    have e := lin_step (n := n) (s := s) (k := k - 1) (by omega) (by omega)
    rw [show k - 1 + 1 = k by omega] at e
    omega
  · have a := tz_ge (k := k + 1) hn hs (by omega)
    have e := lin_step (n := n) (s := s) (k := k) (by omega) hk
    omega
theorem rho_one {s : Int} (hs : 1 ≤ s) : rho 1 s = 0 := rho_eq (Int.le_refl _) hs (Int.le_refl _) (by rw [Rz_r0 (by omega)]; exact Int.le_refl _) (by rw [show (0 : Int) - 1 = -1 by rfl, Rz_neg (by omega)]; decide)
theorem rho_pos {n s : Int} (hn : 2 ≤ n) (hs : 1 ≤ s) : 1 ≤ rho n s := by
  have h0 := rho_nonneg n s
  have h := rho_reach (n := n) hs
  by_cases e : rho n s = 0
  · rw [e, Rz_r0 (by omega)] at h; omega
  · omega
theorem tz_one {s : Int} (hs : 1 ≤ s) : tz 1 s = 0 := by
  unfold tz
  rw [rho_one hs, show (0 : Int) - 1 = -1 by rfl, Rz_neg (by omega)]
  rfl
theorem tz_nonneg {n s : Int} (hn : 1 ≤ n) (hs : 1 ≤ s) : 0 ≤ tz n s := by
  have := tz_ge (k := 0) hn hs (Int.le_refl _)
  unfold lin at this
  rw [show (0 : Int) - 1 = -1 by rfl, Rz_neg (by omega)] at this
  omega
/-! ### splits -/
def fz (n s m : Int) : Int := m + tz (n - m) (s - 1) + tz m s
theorem lin_split {n s m r : Int} (hs : 2 ≤ s) (hr : 1 ≤ r) : m + lin (n - m) (s - 1) r + lin m s (r - 1) = lin n s r := by
  unfold lin
  have e := Rz_next (s := s) (r := r - 1) (by omega) (by omega)
  rw [show s - 1 + 1 = s by omega, show r - 1 - 1 = r - 2 by omega] at *
  rw [e, Int.mul_sub, Int.sub_mul, Int.one_mul]
  omega
/-- no split is better -/
theorem tz_le_fz {n s m : Int} (hs : 2 ≤ s) (h1 : 1 ≤ m) (h2 : m < n) : tz n s ≤ fz n s m := by
  have hr := rho_pos (n := n) (s := s) (by omega) (by omega)
  have e := lin_split (n := n) (m := m) hs hr
  have a := tz_ge (n := n - m) (s := s - 1) (k := rho n s) (by omega) (by omega) (by omega)
  have b := tz_ge (n := m) (s := s) (k := rho n s - 1) h1 (by omega) (by omega)
  unfold fz
  rw [tz_lin (n := n)]
  omega
/-- the stretch of the best ones -/
def Best (n s m : Int) : Prop := Rz s (rho n s - 2) ≤ m ∧ m ≤ Rz s (rho n s - 1) ∧ Rz (s - 1) (rho n s - 1) ≤ n - m ∧ n - m ≤ Rz (s - 1) (rho n s)
theorem tz_best {n s m : Int} (hs : 2 ≤ s) (h1 : 1 ≤ m) (h2 : m < n) (h : Best n s m) : fz n s m = tz n s := by
  have hr := rho_pos (n := n) (s := s) (by omega) (by omega)
  have e := lin_split (n := n) (m := m) hs hr
  obtain ⟨b1, b2, b3, b4⟩ := h
  have a := tz_at (n := n - m) (s := s - 1) (k := rho n s) (by omega) (by omega) (by omega) b3 b4
  have b := tz_at (n := m) (s := s) (k := rho n s - 1) h1 (by omega) (by omega) (by rw [show rho n s - 1 - 1 = rho n s - 2 by omega]; exact b1) b2
  unfold fz
  rw [a, b, tz_lin (n := n)]
  omega
theorem tz_lt_fz {n s m : Int} (hs : 2 ≤ s) (h1 : 1 ≤ m) (h2 : m < n) (h : ¬ Best n s m) : tz n s < fz n s m := by
  have hr := rho_pos (n := n) (s := s) (by omega) (by omega)
  have e := lin_split (n := n) (m := m) hs hr
  have a := tz_ge (n := n - m) (s := s - 1) (k := rho n s) (by omega) (by omega) (by omega)
  have b := tz_ge (n := m) (s := s) (k := rho n s - 1) h1 (by omega) (by omega)
  have c : lin (n - m) (s - 1) (rho n s) < tz (n - m) (s - 1) ∨ lin m s (rho n s - 1) < tz m s := by
    unfold Best at h
    by_cases q1 : Rz (s - 1) (rho n s - 1) ≤ n - m ∧ n - m ≤ Rz (s - 1) (rho n s)
    · refine .inr (tz_gt h1 (by omega) (by omega) ?_)
      rw [show rho n s - 1 - 1 = rho n s - 2 by omega]
      omega
    · exact .inl (tz_gt (by omega) (by omega) (by omega) (by omega))
  unfold fz
  rw [tz_lin (n := n)]
  omega
/-- there is a best one -/
theorem best_is {n s : Int} (hn : 2 ≤ n) (hs : 2 ≤ s) : ∃ m, 1 ≤ m ∧ m < n ∧ Best n s m := by
  have hr := rho_pos (n := n) (s := s) hn (by omega)
  have h1 := rho_reach (n := n) (s := s) (by omega)
  have h2 := rho_least (n := n) (s := s) (q := rho n s - 1) (by omega) (by omega) (by omega) (by omega)
  unfold Best
  generalize rho n s = r at *
  have e1 := Rz_next (s := s - 1) (r := r) (by omega) (by omega)
  rw [show s - 1 + 1 = s by omega] at e1
  have p1 : 1 ≤ Rz s (r - 1) := by have := Rz_gt (s := s) (r := r - 1) (by omega) (by omega); omega
  have p2 : 1 ≤ Rz (s - 1) (r - 1) := by have := Rz_gt (s := s - 1) (r := r - 1) (by omega) (by omega); omega
  have e2 := Rz_next (s := s - 1) (r := r - 1) (by omega) (by omega)
  rw [show s - 1 + 1 = s by omega, show r - 1 - 1 = r - 2 by omega] at e2
  have m1 := Rz_mono (s := s) (r := r - 2) (r' := r - 1) (by omega) (by omega) (by omega)
  have m2 := Rz_mono (s := s - 1) (r := r - 1) (r' := r) (by omega) (by omega) (by omega)
  have p0 := Rz_nonneg s (r - 2)
  -- the greatest of the lower ends
  refine ⟨max 1 (max (Rz s (r - 2)) (n - Rz (s - 1) r)), by omega, by omega, ?_⟩
  omega
/-- least and greatest best -/
def loz (n s : Int) : Int := max (max 1 (if rho n s > 1 then Rz s (rho n s - 2) else 0)) (n - Rz (s - 1) (rho n s))
def hiz (n s : Int) : Int := min (min (n - 1) (Rz s (rho n s - 1))) (n - Rz (s - 1) (rho n s - 1))
theorem best_iff {n s m : Int} (hn : 2 ≤ n) (hs : 2 ≤ s) (h1 : 1 ≤ m) (h2 : m < n) : Best n s m ↔ loz n s ≤ m ∧ m ≤ hiz n s := by
  have hr := rho_pos (n := n) (s := s) hn (by omega)
  unfold Best loz hiz
  by_cases e : rho n s > 1
  · rw [if_pos e]; omega
  · rw [if_neg e, show rho n s - 2 = -1 by omega, Rz_neg (by omega)]; omega
theorem loz_range {n s : Int} (hn : 2 ≤ n) (hs : 2 ≤ s) : 1 ≤ loz n s ∧ loz n s ≤ hiz n s ∧ hiz n s < n := by
  obtain ⟨m, h1, h2, h3⟩ := best_is hn hs
  obtain ⟨a, b⟩ := (best_iff hn hs h1 h2).mp h3
  refine ⟨?_, by omega, ?_⟩
  · unfold loz; omega
  · unfold hiz; omega
theorem tz_slot1 {n : Int} (hn : 1 ≤ n) : 2 * tz n 1 = n * (n - 1) := by
  have e : rho n 1 = n - 1 := rho_eq hn (Int.le_refl _) (by omega) (by rw [Rz_one (by omega)]; omega) (by
    by_cases h : n = 1
    · subst h; rw [show (1 : Int) - 1 - 1 = -1 by rfl, Rz_neg (by decide)]; decide
    · rw [Rz_one (by omega)]; omega)
  unfold tz
  rw [e, show (1 : Int) + 1 = 2 by rfl]
  have h2 : ∀ k : Nat, 2 * Rz 2 ((k : Int) - 1) = ((k : Int) + 1) * k := by
    intro k
    induction k with
    | zero => rw [show ((0 : Nat) : Int) - 1 = -1 by rfl, Rz_neg (by decide)]; rfl
    | succ k ih =>
      have e := Rz_next (s := 1) (r := (k : Int)) (by decide) (by omega)
      rw [show (1 : Int) + 1 = 2 by rfl, Rz_one (by omega)] at e
      rw [show ((k + 1 : Nat) : Int) - 1 = (k : Int) by omega, e]
      have e3 : (((k + 1 : Nat) : Int) + 1) * ((k + 1 : Nat) : Int) = ((k : Int) + 1) * k + 2 * ((k : Int) + 1) := by
        rw [show ((k + 1 : Nat) : Int) = (k : Int) + 1 by omega, Int.mul_add, Int.add_mul ((k : Int) + 1) 1 (k : Int)]
        omega
      rw [e3]
      omega
  obtain ⟨k, hk⟩ := Int.eq_ofNat_of_zero_le (show 0 ≤ n - 1 by omega)
  have e4 := h2 k
  rw [show n - 1 - 1 = (k : Int) - 1 by omega, hk]
  have e5 : n = (k : Int) + 1 := by omega
  rw [e5] at *
  rw [Int.mul_sub, e4, Int.mul_comm ((k : Int) + 1) (k : Int)]
  omega
end Bs

namespace Bs
theorem Rz_mono_l {s s' r : Int} (hs : 1 ≤ s) (h : s ≤ s') (hr : -1 ≤ r) : Rz s r ≤ Rz s' r := by
  by_cases h0 : r < 0
  · have e : r = -1 := by omega
    subst e
    rw [Rz_neg (by omega), Rz_neg (by omega)]
    exact Int.le_refl _
  · rw [Rz_of (by omega) (by omega), Rz_of (by omega) (by omega)]
    exact Int.ofNat_le.mpr (R_mono_l (by omega))
/-- one state more costs its rounds -/
theorem tz_succ {n s : Int} (hn : 1 ≤ n) (hs : 1 ≤ s) : tz (n + 1) s - tz n s = rho (n + 1) s := by
  have r0 := rho_pos (n := n + 1) (s := s) (by omega) hs
  have h1 := rho_reach (n := n + 1) hs
  have h2 := rho_least (n := n + 1) (s := s) (q := rho (n + 1) s - 1) (by omega) hs (by omega) (by omega)
  have e := tz_at (n := n) (s := s) (k := rho (n + 1) s) hn hs (by omega) (by omega) (by omega)
  rw [e, tz_lin]
  unfold lin
  rw [Int.mul_add, Int.mul_one]
  omega
/-- one slot more never costs -/
theorem tz_anti {n s : Int} (hn : 1 ≤ n) (hs : 1 ≤ s) : tz n (s + 1) ≤ tz n s := by
  have r0 := rho_nonneg n (s + 1)
  have a := tz_ge (n := n) (s := s) (k := rho n (s + 1)) hn hs r0
  have b := Rz_mono_l (s := s + 1) (s' := s + 1 + 1) (r := rho n (s + 1) - 1) (by omega) (by omega) (by omega)
  rw [tz_lin (s := s + 1)]
  unfold lin at *
  omega
theorem tz_low {n s : Int} (hn : 1 ≤ n) (hs : 1 ≤ s) : n - 1 ≤ tz n s := by
  have := tz_ge (n := n) (s := s) (k := 1) hn hs (by decide)
  unfold lin at this
  rw [show (1 : Int) - 1 = 0 by rfl, Rz_r0 (by omega)] at this
  omega
theorem tz_anti_le {n s : Int} (hn : 1 ≤ n) (hs : 1 ≤ s) : ∀ d : Nat, tz n (s + d) ≤ tz n s
  | 0 => by simp
  | d + 1 => by
    have := tz_anti_le hn hs d
    have := tz_anti (n := n) (s := s + d) hn (by omega)
    rw [show s + ((d + 1 : Nat) : Int) = s + d + 1 by omega]
    omega
theorem tz_anti2 {n s s' : Int} (hn : 1 ≤ n) (hs : 1 ≤ s) (h : s ≤ s') : tz n s' ≤ tz n s := by
  have := tz_anti_le (n := n) hn hs (s' - s).toNat
  rw [show s + ((s' - s).toNat : Int) = s' by omega] at this
  exact this
theorem tz_one_slot {n : Int} (hn : 1 ≤ n) : n * (n - 1) / 2 = tz n 1 := by
  have := tz_slot1 hn
  have e : n * (n - 1) = tz n 1 * 2 := by omega
  rw [e]
  exact Int.mul_ediv_cancel _ (by decide)
theorem tz_high {n s : Int} (hn : 1 ≤ n) (hs : 1 ≤ s) : tz n s ≤ n * (n - 1) / 2 := by
  rw [tz_one_slot hn]
  exact tz_anti2 hn (Int.le_refl _) hs
/-- t over k rounds is a line -/
theorem tz_line {n m s k : Int} (hm : 1 ≤ m) (hs : 1 ≤ s) (hk : 0 ≤ k) (h1 : Rz s (k - 1) ≤ m) (h2 : m ≤ n) (h3 : n ≤ Rz s k) : tz n s = tz m s + k * (n - m) := by
  rw [tz_at (n := n) (by omega) hs hk (by omega) h3, tz_at (n := m) hm hs hk h1 (by omega)]
  unfold lin
  rw [Int.mul_sub]
  omega
theorem hiz_best {n s : Int} (hn : 2 ≤ n) (hs : 2 ≤ s) : Best n s (hiz n s) := by
  obtain ⟨a, b, c⟩ := loz_range hn hs
  exact (best_iff hn hs (by omega) c).mpr ⟨b, Int.le_refl _⟩
theorem loz_best {n s : Int} (hn : 2 ≤ n) (hs : 2 ≤ s) : Best n s (loz n s) := by
  obtain ⟨a, b, c⟩ := loz_range hn hs
  exact (best_iff hn hs a (by omega)).mpr ⟨Int.le_refl _, b⟩
end Bs

namespace Bs
theorem rho_mono {n n' s : Int} (hn : 1 ≤ n) (h : n ≤ n') (hs : 1 ≤ s) : rho n s ≤ rho n' s := by
  have a := rho_reach (n := n') (s := s) hs
  have b := rho_nonneg n' s
  by_cases q : rho n' s < rho n s
  · have := rho_least (n := n) (s := s) (q := rho n' s) hn hs (by omega) q
    omega
  · omega
theorem fz_step {n s m : Int} (hs : 2 ≤ s) (h1 : 1 ≤ m) (h2 : m + 1 < n) : fz n s (m + 1) - fz n s m = 1 - rho (n - m) (s - 1) + rho (m + 1) s := by
  have a := tz_succ (n := n - m - 1) (s := s - 1) (by omega) (by omega)
  have b := tz_succ (n := m) (s := s) (by omega) (by omega)
  rw [show n - m - 1 + 1 = n - m by omega] at a
  unfold fz
  rw [show n - (m + 1) = n - m - 1 by omega]
  omega
theorem fz_slope {n s m k : Int} (hs : 2 ≤ s) (h1 : 1 ≤ m) (h : m ≤ k) (h2 : k + 1 < n) : fz n s (m + 1) - fz n s m ≤ fz n s (k + 1) - fz n s k := by
  rw [fz_step hs h1 (by omega), fz_step hs (by omega) h2]
  have := rho_mono (n := n - k) (n' := n - m) (s := s - 1) (by omega) (by omega) (by omega)
  have := rho_mono (n := m + 1) (n' := k + 1) (s := s) (by omega) (by omega) (by omega)
  omega
theorem fz_up {n s m : Int} (hs : 2 ≤ s) (h1 : 1 ≤ m) (hd : 1 ≤ fz n s (m + 1) - fz n s m) : ∀ d : Nat, m + d < n → fz n s m + d ≤ fz n s (m + d)
  | 0, _ => by simp
  | d + 1, h => by
    have a := fz_up hs h1 hd d (by omega)
    have b := fz_slope (n := n) (s := s) (m := m) (k := m + d) hs h1 (by omega) (by omega)
    rw [show m + ((d + 1 : Nat) : Int) = m + d + 1 by omega]
    omega
theorem fz_down {n s m : Int} (hs : 2 ≤ s) (hm : m + 1 < n) (hd : fz n s (m + 1) - fz n s m ≤ -1) : ∀ d : Nat, 1 ≤ m - d → fz n s m + d ≤ fz n s (m - d)
  | 0, _ => by simp
  | d + 1, h => by
    have a := fz_down hs hm hd d (by omega)
    have b := fz_slope (n := n) (s := s) (m := m - d - 1) (k := m) hs (by omega) (by omega) (by omega)
    rw [show m - ((d + 1 : Nat) : Int) = m - d - 1 by omega]
    rw [show m - (d : Int) - 1 + 1 = m - d by omega] at b
    omega
/-- towards the stretch it is no greater -/
theorem fz_left {n s m : Int} (hn : 2 ≤ n) (hs : 2 ≤ s) (h1 : 1 ≤ m) (h : m < loz n s) : fz n s (m + 1) ≤ fz n s m := by
  obtain ⟨a, b, c⟩ := loz_range hn hs
  by_cases q : fz n s (m + 1) ≤ fz n s m
  · exact q
  · have u := fz_up (n := n) (s := s) (m := m) hs h1 (by omega) (loz n s - m).toNat (by omega)
    rw [show m + ((loz n s - m).toNat : Int) = loz n s by omega, tz_best hs a (by omega) (loz_best hn hs)] at u
    have := tz_le_fz (n := n) (s := s) (m := m) hs h1 (by omega)
    omega
theorem fz_right {n s m : Int} (hn : 2 ≤ n) (hs : 2 ≤ s) (h1 : m < n) (h : hiz n s < m) : fz n s (m - 1) ≤ fz n s m := by
  obtain ⟨a, b, c⟩ := loz_range hn hs
  by_cases q : fz n s (m - 1) ≤ fz n s m
  · exact q
  · have u := fz_down (n := n) (s := s) (m := m - 1) hs (by omega) (by rw [show m - 1 + 1 = m by omega]; omega) (m - 1 - hiz n s).toNat (by omega)
    rw [show m - 1 - ((m - 1 - hiz n s).toNat : Int) = hiz n s by omega, tz_best hs (by omega) (by omega) (hiz_best hn hs)] at u
    have := tz_le_fz (n := n) (s := s) (m := m) hs (by omega) h1
    omega
/-- what the law asks of a split -/
theorem loss_zero {n s m : Int} (hn : 2 ≤ n) (hs : 2 ≤ s) (h1 : 1 ≤ m) (h2 : m < n) : fz n s m - tz n s = 0 ↔ loz n s ≤ m ∧ m ≤ hiz n s := by
  rw [← best_iff hn hs h1 h2]
  by_cases b : Best n s m
  · have := tz_best hs h1 h2 b
    exact ⟨fun _ => b, fun _ => by omega⟩
  · have := tz_lt_fz hs h1 h2 b
    exact ⟨fun _ => by omega, fun k => absurd k b⟩
theorem tz_cap {n s : Int} (hn : 1 ≤ n) (h2 : n ≤ 10 ^ 30) (hs : 1 ≤ s) : 0 ≤ tz n s ∧ tz n s ≤ 10 ^ 60 := by
  have a := tz_nonneg (n := n) (s := s) hn hs
  have b := tz_high (n := n) (s := s) hn hs
  have c : n * n ≤ 10 ^ 60 := calc
    n * n ≤ 10 ^ 30 * 10 ^ 30 := Int.mul_le_mul h2 h2 (by omega) (by decide)
    _ = 10 ^ 60 := by decide
  have e : n * (n - 1) = n * n - n := by rw [Int.mul_sub, Int.mul_one]
  omega
theorem fz_cap {n s m : Int} (hs : 2 ≤ s) (h1 : 1 ≤ m) (h2 : m < n) (h3 : n ≤ 10 ^ 30) : 0 ≤ fz n s m - tz n s ∧ fz n s m - tz n s ≤ 10 ^ 62 := by
  have a := tz_cap (n := n) (s := s) (by omega) h3 (by omega)
  have b := tz_cap (n := m) (s := s) (by omega) (by omega) (by omega)
  have c := tz_cap (n := n - m) (s := s - 1) (by omega) (by omega) (by omega)
  have d := tz_le_fz (n := n) (s := s) (m := m) hs h1 h2
  unfold fz at *
  omega
def tt (n s : Nat) : Int := if n = 0 then 0 else tz n s
theorem tt_one (s : Nat) (h : 1 ≤ s) : tt 1 s = 0 := by unfold tt; rw [if_neg (by decide)]; exact tz_one (by omega)
theorem tt_slot1 (n : Nat) : (n : Int) * ((n : Int) - 1) / 2 = tt n 1 := by
  unfold tt
  by_cases h : n = 0
  · subst h; rfl
  · rw [if_neg h]
    have := tz_slot1 (n := (n : Int)) (by omega)
    have e : (n : Int) * ((n : Int) - 1) = tz n 1 * 2 := by rw [← this, Int.mul_comm]
    rw [e]
    exact Int.mul_ediv_cancel _ (by decide)
/-- the splits of n states, s slots: what they cost -/
def splitV (n s : Nat) : List Int := (List.range (n - 1)).map fun (i : Nat) => 1 + (i : Int) + tt (n - (i + 1)) (s - 1) + tt (i + 1) s
theorem splitV_min {n s : Nat} (hn : 2 ≤ n) (hs : 2 ≤ s) {m : Int} (h1 : m ∈ splitV n s) (h2 : ∀ y, y ∈ splitV n s → m ≤ y) : m = tt n s := by
  have e : tt n s = tz n s := by unfold tt; rw [if_neg (by omega)]
  have cost : ∀ i : Nat, i < n - 1 → 1 + (i : Int) + tt (n - (i + 1)) (s - 1) + tt (i + 1) s = fz n s (i + 1 : Nat) := fun i hi => by
    unfold fz tt
    rw [if_neg (by omega), if_neg (by omega), show ((n - (i + 1) : Nat) : Int) = (n : Int) - ((i + 1 : Nat) : Int) by omega, show ((s - 1 : Nat) : Int) = (s : Int) - 1 by omega]
    omega
  rw [e]
  refine Int.le_antisymm ?_ ?_
  · obtain ⟨k, k1, k2, kb⟩ := best_is (n := (n : Int)) (s := (s : Int)) (by omega) (by omega)
    have hk : k = ((k.toNat - 1 + 1 : Nat) : Int) := by omega
    have := h2 (fz n s k) (by
      unfold splitV
      refine List.mem_map.mpr ⟨k.toNat - 1, List.mem_range.mpr (by omega), ?_⟩
      rw [cost _ (by omega), ← hk])
    rw [tz_best (by omega) k1 k2 kb] at this
    exact this
  · unfold splitV at h1
    obtain ⟨i, hi, rfl⟩ := List.mem_map.mp h1
    have hi2 := List.mem_range.mp hi
    rw [cost i hi2]
    exact tz_le_fz (by omega) (by omega) (by omega)
def Rq : Nat → Nat → Nat
  | 0, _ => 1
  | s + 1, r => Rq s r * (s + r + 1) / (s + 1)
theorem R_q : ∀ s r : Nat, R s r = Rq s r
  | 0, r => R_0 r
  | s + 1, r => by
    show R (s + 1) r = Rq s r * (s + r + 1) / (s + 1)
    rw [← R_q s r, ← R_up s r]
    exact (Nat.mul_div_cancel _ (by omega)).symm
theorem Rz_q {s r : Int} (hs : 0 ≤ s) (hr : 0 ≤ r) : Rz s r = (Rq s.toNat r.toNat : Nat) := by rw [Rz_of hs hr, R_q]
theorem first_lost : 0 < fz (10 ^ 30) 100 1 - tz (10 ^ 30) 100 := by
  have e : rho (10 ^ 30) 100 = 31 := rho_eq (by decide) (by decide) (by decide) (by rw [Rz_q (by decide) (by decide)]; decide +kernel) (by rw [Rz_q (by decide) (by decide)]; decide +kernel)
  have b : ¬ Best (10 ^ 30) 100 1 := by
    unfold Best
    rw [e]
    rintro ⟨_, _, _, h⟩
    rw [Rz_q (by decide) (by decide)] at h
    revert h
    decide +kernel
  have := tz_lt_fz (n := 10 ^ 30) (s := 100) (m := 1) (by decide) (by decide) (by decide) b
  omega
end Bs

namespace Bs
/-! ### the latest plan: how many operations, which operation -/
theorem nat_succ {r : Int} (h : 1 ≤ r) : ∃ k : Nat, r = (k : Int) + 1 := ⟨(r - 1).toNat, by omega⟩
theorem Rz_lt {s r : Int} (hs : 1 ≤ s) (hr : 0 ≤ r) : Rz s (r - 1) < Rz s r := by
  by_cases h : r = 0
  · subst h
    rw [show (0 : Int) - 1 = -1 by rfl, Rz_neg (by omega), Rz_r0 (by omega)]
    decide
  · have e := Rz_next (s := s - 1) (r := r) (by omega) (by omega)
    rw [show s - 1 + 1 = s by omega] at e
    by_cases h1 : s = 1
    · subst h1
      rw [Rz_one (by omega), Rz_one (by omega)]
      omega
    · have := Rz_gt (s := s - 1) (r := r) (by omega) hr
      omega
theorem rho_full {s r : Int} (hs : 1 ≤ s) (hr : 0 ≤ r) : rho (Rz s r) s = r :=
  rho_eq (by have := Rz_gt hs hr; omega) hs hr (Int.le_refl _) (Rz_lt hs hr)
theorem rho_slot1 {n : Int} (hn : 1 ≤ n) : rho n 1 = n - 1 :=
  rho_eq hn (by decide) (by omega) (by rw [Rz_one (by omega)]; omega) (by
    by_cases h : n = 1
    · subst h; decide
    · rw [Rz_one (by omega)]; omega)
theorem full_one {s : Int} (hs : 1 ≤ s) : (1 : Int) = Rz s (rho 1 s) := by rw [rho_one hs, Rz_r0 (by omega)]
theorem full_slot1 {n : Int} (hn : 1 ≤ n) : n = Rz 1 (rho n 1) := by rw [rho_slot1 hn, Rz_one (by omega)]; omega
/-- one round less, one slot less, by division -/
theorem term_less {s r : Int} (hs : 1 ≤ s) (hr : 0 ≤ r) : Rz s r * r / (s + r) = Rz s (r - 1) := by
  by_cases h : r = 0
  · subst h
    rw [show (0 : Int) - 1 = -1 by rfl, Rz_neg (by omega), Int.mul_zero, Int.zero_ediv]
  · obtain ⟨k, rfl⟩ := nat_succ (show 1 ≤ r by omega)
    obtain ⟨j, rfl⟩ := Int.eq_ofNat_of_zero_le (show 0 ≤ s by omega)
    rw [show (k : Int) + 1 - 1 = (k : Int) by omega, show (k : Int) + 1 = ((k + 1 : Nat) : Int) by omega, Rz_nat, Rz_nat]
    have e := R_right j k
    have e2 : ((R j (k + 1) : Nat) : Int) * ((k + 1 : Nat) : Int) = ((R j k : Nat) : Int) * ((j : Int) + ((k + 1 : Nat) : Int)) := by
      have e3 : ((R j (k + 1) * (k + 1) : Nat) : Int) = ((R j k * (j + k + 1) : Nat) : Int) := by rw [e]
      rw [Int.natCast_mul, Int.natCast_mul] at e3
      rw [e3, show (j : Int) + ((k + 1 : Nat) : Int) = ((j + k + 1 : Nat) : Int) by omega]
    rw [e2]
    exact Int.mul_ediv_cancel _ (by omega)
theorem term_slots {s r : Int} (hs : 1 ≤ s) (hr : 0 ≤ r) : Rz s r * s / (s + r) = Rz (s - 1) r := by
  obtain ⟨j, rfl⟩ := nat_succ hs
  obtain ⟨k, rfl⟩ := Int.eq_ofNat_of_zero_le hr
  rw [show (j : Int) + 1 - 1 = (j : Int) by omega, show (j : Int) + 1 = ((j + 1 : Nat) : Int) by omega, Rz_nat, Rz_nat]
  have e := R_up j k
  have e2 : ((R (j + 1) k : Nat) : Int) * ((j + 1 : Nat) : Int) = ((R j k : Nat) : Int) * (((j + 1 : Nat) : Int) + (k : Int)) := by
    have e3 : ((R (j + 1) k * (j + 1) : Nat) : Int) = ((R j k * (j + k + 1) : Nat) : Int) := by rw [e]
    rw [Int.natCast_mul, Int.natCast_mul] at e3
    rw [e3, show ((j + 1 : Nat) : Int) + (k : Int) = ((j + k + 1 : Nat) : Int) by omega]
  rw [e2]
  exact Int.mul_ediv_cancel _ (by omega)
/-- operations of the plan of n states with s slots -/
def opsN (n s : Int) : Int :=
  if h : 2 ≤ n ∧ 2 ≤ s then (if n - hiz n s > 1 then 4 else 2) + opsN (n - hiz n s) (s - 1) + opsN (hiz n s) s else 3 * n - 2
termination_by n.toNat
decreasing_by all_goals (have := loz_range h.1 h.2; omega)
theorem opsN_row {n s : Int} (h : n < 2 ∨ s < 2) : opsN n s = 3 * n - 2 := by
  rw [opsN, dif_neg (by omega)]
theorem opsN_two {n s : Int} (hn : 2 ≤ n) (hs : 2 ≤ s) : opsN n s = (if n - hiz n s > 1 then 4 else 2) + opsN (n - hiz n s) (s - 1) + opsN (hiz n s) s := by
  rw [opsN, dif_pos ⟨hn, hs⟩]
/-- a plan's parts, for proofs about all plans -/
theorem plan_ind {M : Int → Int → Prop} (row : ∀ n s, 1 ≤ n → 1 ≤ s → (n < 2 ∨ s < 2) → M n s)
    (two : ∀ n s, 2 ≤ n → 2 ≤ s → M (n - hiz n s) (s - 1) → M (hiz n s) s → M n s) : ∀ n s : Int, 1 ≤ n → 1 ≤ s → M n s := by
  have main : ∀ k : Nat, ∀ n s : Int, n.toNat ≤ k → 1 ≤ n → 1 ≤ s → M n s := by
    intro k
    induction k with
    | zero => intro n s h hn hs; omega
    | succ k ih =>
      intro n s h hn hs
      by_cases q : n < 2 ∨ s < 2
      · exact row n s hn hs q
      · obtain ⟨a, b, c⟩ := loz_range (n := n) (s := s) (by omega) (by omega)
        exact two n s (by omega) (by omega) (ih _ _ (by omega) (by omega) (by omega)) (ih _ _ (by omega) (by omega) (by omega))
  exact fun n s hn hs => main n.toNat n s (Nat.le_refl _) hn hs
theorem opsN_ge : ∀ n s : Int, 1 ≤ n → 1 ≤ s → n ≤ opsN n s ∧ opsN n s ≤ 5 * n - 4 := by
  refine plan_ind (fun n s hn hs h => by rw [opsN_row h]; omega) (fun n s hn hs a b => ?_)
  rw [opsN_two hn hs]
  obtain ⟨r1, r2, r3⟩ := loz_range hn hs
  split <;> omega
/-- the split where the rounds reach just so many -/
theorem hiz_full {s r : Int} (hs : 2 ≤ s) (hr : 1 ≤ r) : hiz (Rz s r) s = Rz s (r - 1) := by
  unfold hiz
  rw [rho_full (by omega) (by omega)]
  have e := Rz_next (s := s - 1) (r := r) (by omega) (by omega)
  rw [show s - 1 + 1 = s by omega] at e
  have g := Rz_gt (s := s - 1) (r := r) (by omega) (by omega)
  have m := Rz_mono (s := s - 1) (r := r - 1) (r' := r) (by omega) (by omega) (by omega)
  omega
theorem opsN_full : ∀ (j k : Nat), opsN (Rz (j + 1 : Nat) k) (j + 1 : Nat) = 3 * Rz (j + 1 : Nat) k + 2 * Rz j k - 4
  | 0, k => by
    rw [opsN_row (.inr (by omega))]
    show 3 * Rz 1 k - 2 = 3 * Rz 1 k + 2 * Rz 0 k - 4
    rw [Rz_zero]
    omega
  | j + 1, 0 => by
    rw [show ((0 : Nat) : Int) = 0 by rfl, Rz_r0 (by omega), Rz_r0 (by omega), opsN_row (.inl (by omega))]
    rfl
  | j + 1, k + 1 => by
    have a := opsN_full j (k + 1)
    have b := opsN_full (j + 1) k
    have e := Rz_next (s := ((j + 1 : Nat) : Int)) (r := ((k + 1 : Nat) : Int)) (by omega) (by omega)
    have e2 := Rz_next (s := (j : Int)) (r := ((k + 1 : Nat) : Int)) (by omega) (by omega)
    have g := Rz_gt (s := ((j + 1 : Nat) : Int)) (r := ((k + 1 : Nat) : Int)) (by omega) (by omega)
    have g2 := Rz_gt (s := ((j + 1 + 1 : Nat) : Int)) (r := (k : Int)) (by omega) (by omega)
    rw [show ((j + 1 : Nat) : Int) + 1 = ((j + 1 + 1 : Nat) : Int) by omega, show ((k + 1 : Nat) : Int) - 1 = (k : Int) by omega] at e
    rw [show (j : Int) + 1 = ((j + 1 : Nat) : Int) by omega, show ((k + 1 : Nat) : Int) - 1 = (k : Int) by omega] at e2
    have hz := hiz_full (s := ((j + 1 + 1 : Nat) : Int)) (r := ((k + 1 : Nat) : Int)) (by omega) (by omega)
    rw [show ((k + 1 : Nat) : Int) - 1 = (k : Int) by omega] at hz
    rw [opsN_two (by omega) (by omega), hz, show Rz ((j + 1 + 1 : Nat) : Int) ((k + 1 : Nat) : Int) - Rz ((j + 1 + 1 : Nat) : Int) (k : Int) = Rz ((j + 1 : Nat) : Int) ((k + 1 : Nat) : Int) by omega,
      if_pos (by omega), show ((j + 1 + 1 : Nat) : Int) - 1 = ((j + 1 : Nat) : Int) by omega, a, b]
    omega
/-- the count of a part that its rounds reach just -/
theorem opsN_closed {s r : Int} (hs : 1 ≤ s) (hr : 0 ≤ r) : opsN (Rz s r) s = 3 * Rz s r + 2 * Rz (s - 1) r - 4 := by
  obtain ⟨j, rfl⟩ := nat_succ hs
  obtain ⟨k, rfl⟩ := Int.eq_ofNat_of_zero_le hr
  have := opsN_full j k
  rw [show (j : Int) + 1 - 1 = (j : Int) by omega, show (j : Int) + 1 = ((j + 1 : Nat) : Int) by omega]
  exact this
/-! parts of a plan: rounds and reaches -/
/-- its rounds reach just so many -/
def Full (n s : Int) : Prop := n = Rz s (rho n s)
instance {n s : Int} : Decidable (Full n s) := by unfold Full; infer_instance
theorem full_of {s r : Int} (hs : 1 ≤ s) (hr : 0 ≤ r) {n : Int} (h : n = Rz s r) : Full n s := by
  unfold Full
  rw [h, rho_full hs hr]
theorem rest_rho {n s : Int} (hn : 2 ≤ n) (hs : 2 ≤ s) : rho (n - hiz n s) (s - 1) = if n - hiz n s = Rz (s - 1) (rho n s - 1) then rho n s - 1 else rho n s := by
  have hr := rho_pos (n := n) (s := s) hn (by omega)
  obtain ⟨a, b, c⟩ := loz_range hn hs
  obtain ⟨b1, b2, b3, b4⟩ := hiz_best hn hs
  split
  · rename_i h
    rw [h, rho_full (by omega) (by omega)]
  · exact rho_eq (by omega) (by omega) (by omega) b4 (by omega)
theorem ahead_rho {n s : Int} (hn : 2 ≤ n) (hs : 2 ≤ s) : rho (hiz n s) s = if hiz n s = Rz s (rho n s - 2) then rho n s - 2 else rho n s - 1 := by
  have hr := rho_pos (n := n) (s := s) hn (by omega)
  obtain ⟨a, b, c⟩ := loz_range hn hs
  obtain ⟨b1, b2, b3, b4⟩ := hiz_best hn hs
  split
  · rename_i h
    have h2 : 0 ≤ rho n s - 2 := by
      by_cases q : rho n s = 1
      · rw [q, show (1 : Int) - 2 = -1 by rfl, Rz_neg (by omega)] at h
        omega
      · omega
    rw [h, rho_full (by omega) h2]
  · exact rho_eq (by omega) (by omega) (by omega) b2 (by rw [show rho n s - 1 - 1 = rho n s - 2 by omega]; omega)
/-- one of both parts is told at once -/
theorem one_full {n s : Int} (hn : 2 ≤ n) (hs : 2 ≤ s) : Full (n - hiz n s) (s - 1) ∨ Full (hiz n s) s := by
  have hr := rho_pos (n := n) (s := s) hn (by omega)
  have h : hiz n s = n - 1 ∨ hiz n s = Rz s (rho n s - 1) ∨ n - hiz n s = Rz (s - 1) (rho n s - 1) := by unfold hiz; omega
  rcases h with h | h | h
  · left
    rw [show n - hiz n s = 1 by omega]
    exact full_one (by omega)
  · exact .inr (full_of (by omega) (by omega) h)
  · exact .inl (full_of (by omega) (by omega) h)
theorem full_row {n s : Int} (hn : 1 ≤ n) (hs : 1 ≤ s) (h : n < 2 ∨ s < 2) : Full n s := by
  rcases h with h | h
  · rw [show n = 1 by omega]; exact full_one hs
  · rw [show s = 1 by omega]; exact full_slot1 hn
/-- behind and ahead, as the code tells them: (states, slots, rounds, reached) -/
def restT (n s : Int) : List Int := if n - hiz n s = Rz (s - 1) (rho n s - 1) then [Rz (s - 1) (rho n s - 1), s - 1, rho n s - 1, Rz (s - 1) (rho n s - 1)] else [n - hiz n s, s - 1, rho n s, Rz (s - 1) (rho n s)]
def aheadT (n s : Int) : List Int := if hiz n s = Rz s (rho n s - 2) then [Rz s (rho n s - 2), s, rho n s - 2, Rz s (rho n s - 2)] else [hiz n s, s, rho n s - 1, Rz s (rho n s - 1)]
def partT (n s : Int) : List Int := [n, s, rho n s, Rz s (rho n s)]
theorem restT_eq {n s : Int} (hn : 2 ≤ n) (hs : 2 ≤ s) : restT n s = partT (n - hiz n s) (s - 1) := by
  unfold restT partT
  rw [rest_rho hn hs]
  split
  · rename_i h
    rw [← h]
  · rfl
theorem aheadT_eq {n s : Int} (hn : 2 ≤ n) (hs : 2 ≤ s) : aheadT n s = partT (hiz n s) s := by
  unfold aheadT partT
  rw [ahead_rho hn hs]
  split
  · rename_i h
    rw [← h]
  · rfl
/-! ### operations, by number -/
inductive Op where
  | go (k : Int) | keep | take (m : Int) | free (m : Int) | back
/-- one slot more is taken if more than one state is behind the split -/
def kp (n s : Int) : Int := if n - hiz n s > 1 then 1 else 0
def rowOp (b n i : Int) : Op := if i / 3 = n - 1 ∨ i % 3 = 1 then .back else if i % 3 = 0 then .go (n - 1 - i / 3) else .take b
def opAt (n s b i : Int) : Op :=
  if h : 2 ≤ n ∧ 2 ≤ s then
    if i = 0 then .go (hiz n s)
    else if i = 1 ∧ kp n s = 1 then .keep
    else if i - (1 + kp n s) < opsN (n - hiz n s) (s - 1) then opAt (n - hiz n s) (s - 1) (b + hiz n s) (i - (1 + kp n s))
    else if i - (1 + kp n s) = opsN (n - hiz n s) (s - 1) ∧ kp n s = 1 then .free (b + hiz n s)
    else if i - (1 + kp n s) = opsN (n - hiz n s) (s - 1) + kp n s then .take b
    else opAt (hiz n s) s b (i - (1 + kp n s) - opsN (n - hiz n s) (s - 1) - kp n s - 1)
  else rowOp b n i
termination_by n.toNat
decreasing_by all_goals (have := loz_range h.1 h.2; omega)
theorem opAt_row {n s b i : Int} (h : n < 2 ∨ s < 2) : opAt n s b i = rowOp b n i := by
  rw [opAt, dif_neg (by omega)]
theorem opAt_two {n s b i : Int} (hn : 2 ≤ n) (hs : 2 ≤ s) : opAt n s b i = if i = 0 then .go (hiz n s)
    else if i = 1 ∧ kp n s = 1 then .keep
    else if i - (1 + kp n s) < opsN (n - hiz n s) (s - 1) then opAt (n - hiz n s) (s - 1) (b + hiz n s) (i - (1 + kp n s))
    else if i - (1 + kp n s) = opsN (n - hiz n s) (s - 1) ∧ kp n s = 1 then .free (b + hiz n s)
    else if i - (1 + kp n s) = opsN (n - hiz n s) (s - 1) + kp n s then .take b
    else opAt (hiz n s) s b (i - (1 + kp n s) - opsN (n - hiz n s) (s - 1) - kp n s - 1) := by
  rw [opAt, dif_pos ⟨hn, hs⟩]
theorem opsN_kp {n s : Int} (hn : 2 ≤ n) (hs : 2 ≤ s) : opsN n s = 2 + 2 * kp n s + opsN (n - hiz n s) (s - 1) + opsN (hiz n s) s := by
  rw [opsN_two hn hs]
  unfold kp
  split <;> omega
/-- states moved on -/
def Op.moved (d : Int) : Op → Op
  | .take m => .take (m + d)
  | .free m => .free (m + d)
  | o => o
theorem opAt_moved : ∀ n s : Int, 1 ≤ n → 1 ≤ s → ∀ b d i, opAt n s (b + d) i = (opAt n s b i).moved d := by
  refine plan_ind (fun n s hn hs h b d i => ?_) (fun n s hn hs ih1 ih2 b d i => ?_)
  · rw [opAt_row h, opAt_row h]
    unfold rowOp
    split
    · rfl
    · split <;> rfl
  · rw [opAt_two hn hs, opAt_two hn hs, show b + d + hiz n s = b + hiz n s + d by omega, ih1, ih2]
    split
    · rfl
    · split
      · rfl
      · split
        · rfl
        · split
          · rfl
          · split <;> rfl
/-! ### backs, goes, most -/
theorem kp_01 (n s : Int) : kp n s = 0 ∨ kp n s = 1 := by unfold kp; split <;> simp
def backAt (n s x : Int) : Int :=
  if h : 2 ≤ n ∧ 2 ≤ s then
    if hiz n s ≤ x then 1 + kp n s + backAt (n - hiz n s) (s - 1) (x - hiz n s)
    else 2 + 2 * kp n s + opsN (n - hiz n s) (s - 1) + backAt (hiz n s) s x
  else 3 * (n - 1 - x) + (if n - 1 - x < n - 1 then 1 else 0)
termination_by n.toNat
decreasing_by all_goals (have := loz_range h.1 h.2; omega)
theorem backAt_row {n s x : Int} (h : n < 2 ∨ s < 2) : backAt n s x = 3 * (n - 1 - x) + (if n - 1 - x < n - 1 then 1 else 0) := by
  rw [backAt, dif_neg (by omega)]
theorem backAt_two {n s x : Int} (hn : 2 ≤ n) (hs : 2 ≤ s) : backAt n s x = if hiz n s ≤ x then 1 + kp n s + backAt (n - hiz n s) (s - 1) (x - hiz n s)
    else 2 + 2 * kp n s + opsN (n - hiz n s) (s - 1) + backAt (hiz n s) s x := by
  rw [backAt, dif_pos ⟨hn, hs⟩]
def goesL (n s x c : Int) : List (Int × Int × Int) :=
  if h : 2 ≤ n ∧ 2 ≤ s then
    if hiz n s ≤ x then goesL (n - hiz n s) (s - 1) (x - hiz n s) (c + (1 + kp n s))
    else (c, 1, 0) :: (if x = hiz n s - 1 then [] else goesL (hiz n s) s x (c + (2 + 2 * kp n s + opsN (n - hiz n s) (s - 1))))
  else [(c, n - 1 - x, 3)]
termination_by n.toNat
decreasing_by all_goals (have := loz_range h.1 h.2; omega)
theorem goesL_row {n s x c : Int} (h : n < 2 ∨ s < 2) : goesL n s x c = [(c, n - 1 - x, 3)] := by
  rw [goesL, dif_neg (by omega)]
theorem goesL_two {n s x c : Int} (hn : 2 ≤ n) (hs : 2 ≤ s) : goesL n s x c = if hiz n s ≤ x then goesL (n - hiz n s) (s - 1) (x - hiz n s) (c + (1 + kp n s))
    else (c, 1, 0) :: (if x = hiz n s - 1 then [] else goesL (hiz n s) s x (c + (2 + 2 * kp n s + opsN (n - hiz n s) (s - 1)))) := by
  rw [goesL, dif_pos ⟨hn, hs⟩]
def timesD (n s x : Int) : Int :=
  if h : 2 ≤ n ∧ 2 ≤ s then
    if hiz n s ≤ x then timesD (n - hiz n s) (s - 1) (x - hiz n s)
    else 1 + (if x = hiz n s - 1 then 0 else timesD (hiz n s) s x)
  else n - 1 - x
termination_by n.toNat
decreasing_by all_goals (have := loz_range h.1 h.2; omega)
theorem timesD_row {n s x : Int} (h : n < 2 ∨ s < 2) : timesD n s x = n - 1 - x := by
  rw [timesD, dif_neg (by omega)]
theorem timesD_two {n s x : Int} (hn : 2 ≤ n) (hs : 2 ≤ s) : timesD n s x = if hiz n s ≤ x then timesD (n - hiz n s) (s - 1) (x - hiz n s)
    else 1 + (if x = hiz n s - 1 then 0 else timesD (hiz n s) s x) := by
  rw [timesD, dif_pos ⟨hn, hs⟩]
theorem goes_sum : ∀ n s : Int, 1 ≤ n → 1 ≤ s → ∀ x c, ((goesL n s x c).map fun g => g.2.1).sum = timesD n s x := by
  refine plan_ind (fun n s hn hs h x c => ?_) (fun n s hn hs ih1 ih2 x c => ?_)
  · rw [goesL_row h, timesD_row h]; simp
  · rw [goesL_two hn hs, timesD_two hn hs]
    split
    · exact ih1 _ _
    · rw [List.map_cons, List.sum_cons]
      congr 1
      split
      · rfl
      · exact ih2 _ _
def pickG : List (Int × Int × Int) → Int → Option Int
  | [], _ => none
  | g :: r, k => if k < g.2.1 then some (g.1 + k * g.2.2) else pickG r (k - g.2.1)
def goAt (n s x k : Int) : Option Int := pickG (goesL n s x 0) k
theorem pick_shift : ∀ n s : Int, 1 ≤ n → 1 ≤ s → ∀ x c d k, pickG (goesL n s x (c + d)) k = (pickG (goesL n s x c) k).map (· + d) := by
  refine plan_ind (fun n s hn hs h x c d k => ?_) (fun n s hn hs ih1 ih2 x c d k => ?_)
  · rw [goesL_row h, goesL_row h]
    unfold pickG
    split
    · simp only [Option.map_some]; congr 1; omega
    · rfl
  · rw [goesL_two hn hs, goesL_two hn hs]
    split
    · rw [show c + d + (1 + kp n s) = c + (1 + kp n s) + d by omega]
      exact ih1 _ _ _ _
    · unfold pickG
      split
      · simp only [Option.map_some]; congr 1; omega
      · split
        · rfl
        · rw [show c + d + (2 + 2 * kp n s + opsN (n - hiz n s) (s - 1)) = c + (2 + 2 * kp n s + opsN (n - hiz n s) (s - 1)) + d by omega]
          exact ih2 _ _ _ _
theorem pick_some : ∀ (l : List (Int × Int × Int)) (k : Int), 0 ≤ k → k < (l.map fun g => g.2.1).sum → ∃ v, pickG l k = some v
  | [], k, h0, h => by simp at h; omega
  | g :: r, k, h0, h => by
    unfold pickG
    split
    · exact ⟨_, rfl⟩
    · rw [List.map_cons, List.sum_cons] at h
      exact pick_some r _ (by omega) (by omega)
/-- the part with the most rounds -/
theorem rounds_max {n s : Int} (hn : 2 ≤ n) (hs : 2 ≤ s) : (rho (hiz n s) s = rho n s - 1 ∨ rho (n - hiz n s) (s - 1) = rho n s) ∧ rho (hiz n s) s ≤ rho n s - 1 ∧ rho (n - hiz n s) (s - 1) ≤ rho n s := by
  have a := ahead_rho hn hs
  have b := rest_rho hn hs
  have hr := rho_pos (n := n) (s := s) hn (by omega)
  have l := rho_least (n := n) (s := s) (q := rho n s - 1) (by omega) (by omega) (by omega) (by omega)
  have e := Rz_next (s := s - 1) (r := rho n s - 1) (by omega) (by omega)
  rw [show s - 1 + 1 = s by omega, show rho n s - 1 - 1 = rho n s - 2 by omega] at e
  by_cases h1 : hiz n s = Rz s (rho n s - 2)
  · rw [if_pos h1] at a
    by_cases h2 : n - hiz n s = Rz (s - 1) (rho n s - 1)
    · omega
    · rw [if_neg h2] at b
      omega
  · rw [if_neg h1] at a
    refine ⟨.inl a, by omega, ?_⟩
    rw [b]
    split <;> omega
def mostAt (n s b : Int) : Int :=
  if h : 2 ≤ n ∧ 2 ≤ s then
    if hiz n s > 1 ∧ rho (hiz n s) s = rho n s - 1 then mostAt (hiz n s) s b
    else if rho n s = 1 ∧ hiz n s = 1 then b
    else mostAt (n - hiz n s) (s - 1) (b + hiz n s)
  else b
termination_by n.toNat
decreasing_by all_goals (have := loz_range h.1 h.2; omega)
theorem mostAt_row {n s b : Int} (h : n < 2 ∨ s < 2) : mostAt n s b = b := by
  rw [mostAt, dif_neg (by omega)]
theorem mostAt_two {n s b : Int} (hn : 2 ≤ n) (hs : 2 ≤ s) : mostAt n s b = if hiz n s > 1 ∧ rho (hiz n s) s = rho n s - 1 then mostAt (hiz n s) s b
    else if rho n s = 1 ∧ hiz n s = 1 then b else mostAt (n - hiz n s) (s - 1) (b + hiz n s) := by
  rw [mostAt, dif_pos ⟨hn, hs⟩]
theorem most_rest {n s : Int} (hn : 2 ≤ n) (hs : 2 ≤ s) (h1 : ¬ (hiz n s > 1 ∧ rho (hiz n s) s = rho n s - 1)) (h2 : ¬ (rho n s = 1 ∧ hiz n s = 1)) : rho (n - hiz n s) (s - 1) = rho n s := by
  obtain ⟨a, b, c⟩ := rounds_max hn hs
  obtain ⟨l1, l2, l3⟩ := loz_range hn hs
  rcases a with a | a
  · have e : hiz n s = 1 := by omega
    have := rho_one (s := s) (by omega)
    rw [e] at a
    exact absurd ⟨by omega, e⟩ h2
  · exact a
theorem goes_in : ∀ n s : Int, 1 ≤ n → 1 ≤ s → ∀ x c, x ≤ n - 1 → ∀ g ∈ goesL n s x c, 0 ≤ g.2.1 ∧ 0 ≤ g.2.2 ∧ g.2.2 ≤ 3 := by
  refine plan_ind (fun n s hn hs h x c hx g hg => ?_) (fun n s hn hs ih1 ih2 x c hx g hg => ?_)
  · rw [goesL_row h] at hg
    rw [List.mem_singleton.mp hg]
    exact ⟨by show 0 ≤ n - 1 - x; omega, show (0 : Int) ≤ 3 by decide, show (3 : Int) ≤ 3 by decide⟩
  · rw [goesL_two hn hs] at hg
    split at hg
    · exact ih1 _ _ (by omega) g hg
    · rename_i h1
      rcases List.mem_cons.mp hg with h | h
      · rw [h]; exact ⟨show (0 : Int) ≤ 1 by decide, show (0 : Int) ≤ 0 by decide, show (0 : Int) ≤ 3 by decide⟩
      · split at h
        · cases h
        · exact ih2 _ _ (by omega) g h
theorem goes_len : ∀ n s : Int, 1 ≤ n → 1 ≤ s → ∀ x c, ((goesL n s x c).length : Int) ≤ rho n s + 1 := by
  refine plan_ind (fun n s hn hs h x c => ?_) (fun n s hn hs ih1 ih2 x c => ?_)
  · rw [goesL_row h]
    have := rho_nonneg n s
    show (1 : Int) ≤ _
    omega
  · rw [goesL_two hn hs]
    obtain ⟨a, b, c'⟩ := rounds_max hn hs
    split
    · have := ih1 (x - hiz n s) (c + (1 + kp n s)); omega
    · rw [List.length_cons]
      split
      · have := rho_pos (n := n) (s := s) hn (by omega)
        show ((0 + 1 : Nat) : Int) ≤ _
        omega
      · have := ih2 x (c + (2 + 2 * kp n s + opsN (n - hiz n s) (s - 1)))
        omega
theorem times_in : ∀ n s : Int, 1 ≤ n → 1 ≤ s → ∀ x, 0 ≤ x → x < n - 1 → 1 ≤ timesD n s x ∧ timesD n s x ≤ rho n s := by
  refine plan_ind (fun n s hn hs h x h0 h1 => ?_) (fun n s hn hs ih1 ih2 x h0 h1 => ?_)
  · rw [timesD_row h]
    have e : s = 1 := by omega
    subst e
    rw [rho_slot1 hn]
    omega
  · rw [timesD_two hn hs]
    obtain ⟨a, b, c⟩ := rounds_max hn hs
    split
    · have := ih1 (x - hiz n s) (by omega) (by omega)
      omega
    · split
      · have := rho_pos (n := n) (s := s) hn (by omega)
        omega
      · have := ih2 x h0 (by omega)
        omega
/-- the number of an operation -/
def Op.num : Op → Int
  | .go k => k
  | .take m => m
  | .free m => m
  | _ => 0
theorem opAt_num : ∀ n s : Int, 1 ≤ n → 1 ≤ s → ∀ b i, 0 ≤ b → 0 ≤ i → i < opsN n s → 0 ≤ (opAt n s b i).num ∧ (opAt n s b i).num ≤ b + n := by
  refine plan_ind (fun n s hn hs h b i hb h0 h1 => ?_) (fun n s hn hs ih1 ih2 b i hb h0 h1 => ?_)
  · rw [opsN_row h] at h1
    rw [opAt_row h]
    unfold rowOp
    split
    · exact ⟨by show (0 : Int) ≤ 0; omega, by show (0 : Int) ≤ b + n; omega⟩
    · split
      · exact ⟨by show 0 ≤ n - 1 - i / 3; omega, by show n - 1 - i / 3 ≤ b + n; omega⟩
      · exact ⟨hb, by show b ≤ b + n; omega⟩
  · obtain ⟨l1, l2, l3⟩ := loz_range hn hs
    have ek := opsN_kp hn hs
    have k01 := kp_01 n s
    rw [opAt_two hn hs]
    split
    · exact ⟨by show 0 ≤ hiz n s; omega, by show hiz n s ≤ b + n; omega⟩
    · split
      · exact ⟨by show (0 : Int) ≤ 0; omega, by show (0 : Int) ≤ b + n; omega⟩
      · split
        · have := ih1 (b + hiz n s) (i - (1 + kp n s)) (by omega) (by omega) (by omega)
          omega
        · split
          · exact ⟨by show 0 ≤ b + hiz n s; omega, by show b + hiz n s ≤ b + n; omega⟩
          · split
            · exact ⟨hb, by show b ≤ b + n; omega⟩
            · have og := opsN_ge (n - hiz n s) (s - 1) (by omega) (by omega)
              have := ih2 b (i - (1 + kp n s) - opsN (n - hiz n s) (s - 1) - kp n s - 1) hb (by omega) (by omega)
              omega
end Bs

namespace Bs
open PySem PySem.Spec PyProof.Rows L2
/-! ### how many steps are done how often in a best list -/
theorem cum_split {n s m j : Int} (hs : 2 ≤ s) (h1 : 1 ≤ m) (h2 : m < n) (hb : Best n s m) (hj : 0 ≤ j) : min n (Rz s j) = min (n - m) (Rz (s - 1) j) + min m (Rz s (j - 1)) := by
  obtain ⟨b1, b2, b3, b4⟩ := hb
  have r1 := rho_pos (n := n) (s := s) (by omega) (by omega)
  by_cases h : j ≤ rho n s - 1
  · have p : Rz s j = Rz (s - 1) j + Rz s (j - 1) := by
      by_cases h0 : j = 0
      · subst h0
        rw [Rz_r0 (by omega), Rz_r0 (by omega), show (0 : Int) - 1 = -1 by rfl, Rz_neg (by omega)]
        rfl
      · exact Rz_pascal (by omega) (by omega)
    have a1 := rho_least (n := n) (s := s) (q := rho n s - 1) (by omega) (by omega) (by omega) (by omega)
    have a2 := Rz_mono (s := s) (r := j) (r' := rho n s - 1) (by omega) h (by omega)
    have a3 := Rz_mono (s := s - 1) (r := j) (r' := rho n s - 1) (by omega) h (by omega)
    have a4 := Rz_mono (s := s) (r := j - 1) (r' := rho n s - 2) (by omega) (by omega) (by omega)
    omega
  · have a0 := rho_reach (n := n) (s := s) (by omega)
    have a2 := Rz_mono (s := s) (r := rho n s) (r' := j) (by omega) (by omega) (by omega)
    have a3 := Rz_mono (s := s - 1) (r := rho n s) (r' := j) (by omega) (by omega) (by omega)
    have a4 := Rz_mono (s := s) (r := rho n s - 1) (r' := j - 1) (by omega) (by omega) (by omega)
    omega
/-- the times of the steps of a best list -/
def Tms (L : List Int) (n s : Int) : Prop := (∀ t ∈ L, 1 ≤ t ∧ t < n) ∧ (L.length : Int) = n - 1 ∧ ∀ j : Int, 0 ≤ j → (L.countP (fun t => decide (t ≤ j)) : Int) + 1 = min n (Rz s j)
theorem Tms.one {s : Int} (hs : 1 ≤ s) : Tms [] 1 s := by
  refine ⟨fun t h => (nomatch h), rfl, fun j hj => ?_⟩
  have := Rz_gt (s := s) (r := j) hs hj
  show (0 : Int) + 1 = _
  omega
def downL : Nat → List Int
  | 0 => []
  | k + 1 => ((k : Int) + 1) :: downL k
theorem downL_range : ∀ k : Nat, downL k = (List.range k).map fun (i : Nat) => (k : Int) - (i : Int)
  | 0 => rfl
  | k + 1 => by
    show _ :: downL k = _
    rw [downL_range k, List.range_succ_eq_map, List.map_cons, List.map_map]
    have e0 : ((k : Int) + 1) = ((k + 1 : Nat) : Int) - ((0 : Nat) : Int) := by omega
    rw [e0]
    congr 1
    · refine List.map_congr_left fun i _ => ?_
      show (k : Int) - (i : Int) = ((k + 1 : Nat) : Int) - ((i + 1 : Nat) : Int)
      omega
theorem downL_len : ∀ k : Nat, (downL k).length = k
  | 0 => rfl
  | k + 1 => congrArg Nat.succ (downL_len k)
theorem downL_mem : ∀ {k : Nat} {t : Int}, t ∈ downL k → 1 ≤ t ∧ t ≤ k
  | k + 1, t, h => by
    rcases List.mem_cons.mp h with rfl | h
    · omega
    · have := downL_mem h
      omega
theorem downL_count : ∀ (k : Nat) (j : Int), 0 ≤ j → ((downL k).countP (fun t => decide (t ≤ j)) : Int) = min (k : Int) j
  | 0, j, h => by show (0 : Int) = min 0 j; omega
  | k + 1, j, h => by
    have ih := downL_count k j h
    show ((((k : Int) + 1) :: downL k).countP (fun t => decide (t ≤ j)) : Int) = _
    rw [List.countP_cons]
    by_cases hk : (k : Int) + 1 ≤ j
    · rw [if_pos (by simpa using hk)]; omega
    · rw [if_neg (by simpa using hk)]; omega
theorem Tms.slot1 {k : Nat} : Tms (downL k) ((k : Int) + 1) 1 := by
  refine ⟨fun t h => ?_, by rw [downL_len]; omega, fun j hj => ?_⟩
  · have := downL_mem h
    omega
  · rw [downL_count k j hj, Rz_one hj]
    omega
theorem count_shift (L : List Int) (j : Int) : (L.map (· + 1)).countP (fun t => decide (t ≤ j)) = L.countP (fun t => decide (t ≤ j - 1)) := by
  rw [List.countP_map]
  refine List.countP_congr fun t _ => ?_
  simp only [Function.comp_apply, decide_eq_true_eq]
  omega
theorem Tms.split {A B : List Int} {n s m : Int} (hs : 2 ≤ s) (h1 : 1 ≤ m) (h2 : m < n) (hb : Best n s m) (ha : Tms A m s) (hB : Tms B (n - m) (s - 1)) : Tms (A.map (· + 1) ++ [1] ++ B) n s := by
  obtain ⟨a1, a2, a3⟩ := ha
  obtain ⟨b1, b2, b3⟩ := hB
  refine ⟨fun t ht => ?_, ?_, fun j hj => ?_⟩
  · rcases List.mem_append.mp ht with ht | ht
    · rcases List.mem_append.mp ht with ht | ht
      · obtain ⟨x, hx, rfl⟩ := List.mem_map.mp ht
        have := a1 x hx
        omega
      · rw [List.mem_singleton.mp ht]
        omega
    · have := b1 t ht
      omega
  · simp only [List.length_append, List.length_map, List.length_cons, List.length_nil]
    omega
  · rw [cum_split hs h1 h2 hb hj, List.countP_append, List.countP_append, count_shift]
    have hb3 := b3 j hj
    by_cases h0 : j = 0
    · subst h0
      have z : A.countP (fun t => decide (t ≤ (0 : Int) - 1)) = 0 := by
        rw [List.countP_eq_zero]
        intro t ht
        have := a1 t ht
        simp only [decide_eq_true_eq]
        omega
      have o : [(1 : Int)].countP (fun t => decide (t ≤ (0 : Int))) = 0 := by decide
      rw [z, o, show (0 : Int) - 1 = -1 by rfl, Rz_neg (by omega)]
      omega
    · have ha3 := a3 (j - 1) (by omega)
      have o : [(1 : Int)].countP (fun t => decide (t ≤ j)) = 1 := by
        rw [List.countP_cons, if_pos (by simp only [decide_eq_true_eq]; omega)]
        rfl
      rw [o]
      omega
/-- how many are done just t times -/
def manyT (n s t : Int) : Int := min n (Rz s t) - min n (Rz s (t - 1))
theorem count_le (L : List Int) (t : Int) : L.countP (fun x => decide (x ≤ t)) = L.countP (fun x => decide (x ≤ t - 1)) + L.count t := by
  induction L with
  | nil => rfl
  | cons x L ih =>
    rw [List.countP_cons, List.countP_cons, List.count_cons, ih]
    by_cases h1 : x ≤ t - 1
    · rw [if_pos (by simp only [decide_eq_true_eq]; omega), if_pos (by simp only [decide_eq_true_eq]; omega), if_neg (by simp only [beq_iff_eq]; omega)]
      omega
    · by_cases h2 : x = t
      · rw [if_pos (by simp only [decide_eq_true_eq]; omega), if_neg (by simp only [decide_eq_true_eq]; omega), if_pos (by simp only [beq_iff_eq]; omega)]
        omega
      · rw [if_neg (by simp only [decide_eq_true_eq]; omega), if_neg (by simp only [decide_eq_true_eq]; omega), if_neg (by simp only [beq_iff_eq]; omega)]
        omega
theorem Tms.count {L : List Int} {n s t : Int} (hn : 1 ≤ n) (hs : 1 ≤ s) (h : Tms L n s) (ht : 1 ≤ t) : (L.count t : Int) = manyT n s t := by
  have h1 := h.2.2 t (by omega)
  have h2 := count_le L t
  unfold manyT
  by_cases h0 : t = 1
  · subst h0
    have z : L.countP (fun x => decide (x ≤ (1 : Int) - 1)) = 0 := by
      rw [List.countP_eq_zero]
      intro x hx
      have := h.1 x hx
      simp only [decide_eq_true_eq]
      omega
    have := Rz_r0 (s := s) (by omega)
    rw [z] at h2
    rw [show (1 : Int) - 1 = 0 by rfl, this]
    omega
  · have h3 := h.2.2 (t - 1) (by omega)
    omega
theorem manyT_pos {n s t : Int} (hn : 1 ≤ n) (hs : 1 ≤ s) (ht : 1 ≤ t) : 0 < manyT n s t ↔ t ≤ rho n s := by
  unfold manyT
  constructor
  · intro h
    refine Decidable.byContradiction fun z => ?_
    have a0 := rho_reach (n := n) (s := s) (by omega)
    have a2 := Rz_mono (s := s) (r := rho n s) (r' := t - 1) (by omega) (by omega) (by have := rho_nonneg n s; omega)
    have a3 := Rz_mono (s := s) (r := t - 1) (r' := t) (by omega) (by omega) (by omega)
    omega
  · intro h
    have a1 := rho_least (n := n) (s := s) (q := t - 1) hn hs (by omega) (by omega)
    have a3 : Rz s (t - 1) < Rz s t := by
      by_cases hs1 : s = 1
      · subst hs1
        rw [Rz_one (by omega), Rz_one (by omega)]
        omega
      · have := Rz_pascal (s := s) (r := t) (by omega) (by omega)
        have := Rz_gt (s := s - 1) (r := t) (by omega) (by omega)
        omega
    omega
theorem manyT_le {n s t : Int} (hs : 1 ≤ s) (ht : 1 ≤ t) (hn : 1 ≤ n) : 0 ≤ manyT n s t ∧ manyT n s t ≤ n := by
  unfold manyT
  have a3 := Rz_mono (s := s) (r := t - 1) (r' := t) (by omega) (by omega) (by omega)
  have := Rz_nonneg s (t - 1)
  omega
/-- the list of the times -/
def stL (n s : Int) (r : Nat) : List (Int × Int) := (List.range r).map fun (i : Nat) => ((i : Int) + 1, manyT n s ((i : Int) + 1))
theorem stL_succ {n s : Int} {r : Nat} : stL n s (r + 1) = stL n s r ++ [((r : Int) + 1, manyT n s ((r : Int) + 1))] := by
  unfold stL
  rw [List.range_succ, List.map_append]
  rfl
theorem stL_len {n s : Int} {r : Nat} : (stL n s r).length = r := by unfold stL; rw [List.length_map, List.length_range]
theorem stL_mem {n s : Int} {r : Nat} {t c : Int} : (t, c) ∈ stL n s r ↔ 1 ≤ t ∧ t ≤ r ∧ c = manyT n s t := by
  unfold stL
  rw [List.mem_map]
  constructor
  · rintro ⟨i, hi, e⟩
    have := List.mem_range.mp hi
    injection e with e1 e2
    subst e1 e2
    exact ⟨by omega, by omega, rfl⟩
  · rintro ⟨h1, h2, rfl⟩
    refine ⟨(t - 1).toNat, List.mem_range.mpr (by omega), ?_⟩
    rw [show (((t - 1).toNat : Nat) : Int) + 1 = t by omega]
/-- all of the steps -/
theorem stL_sum {n s : Int} (hn : 1 ≤ n) (hs : 1 ≤ s) : ∀ r : Nat, ((stL n s r).map (·.2)).sum = min n (Rz s r) - 1
  | 0 => by
    have := Rz_r0 (s := s) (by omega)
    show (0 : Int) = min n (Rz s (0 : Nat)) - 1
    rw [show ((0 : Nat) : Int) = 0 from rfl, this]
    omega
  | r + 1 => by
    rw [stL_succ, List.map_append, List.sum_append, stL_sum hn hs r]
    show _ + (manyT n s ((r : Int) + 1) + 0) = _
    unfold manyT
    rw [show (r : Int) + 1 - 1 = r by omega, show ((r + 1 : Nat) : Int) = (r : Int) + 1 by omega]
    omega
theorem lin_cum {n s : Int} (hn : 1 ≤ n) (hs : 1 ≤ s) : ∀ r : Nat, (r : Int) ≤ rho n s → ((stL n s r).map fun p => p.1 * p.2).sum = (if (r : Int) = rho n s then tz n s else (r : Int) * Rz s r - Rz (s + 1) ((r : Int) - 1)) 
  | 0, _ => by
    by_cases h : ((0 : Nat) : Int) = rho n s
    · rw [if_pos h]
      unfold tz
      rw [← h]
      show (0 : Int) = 0 * n - Rz (s + 1) (0 - 1)
      rw [show (0 : Int) - 1 = -1 by rfl, Rz_neg (by omega)]
      omega
    · rw [if_neg h]
      show (0 : Int) = ((0 : Nat) : Int) * Rz s _ - Rz (s + 1) (((0 : Nat) : Int) - 1)
      rw [show ((0 : Nat) : Int) - 1 = -1 by rfl, Rz_neg (by omega)]
      show (0 : Int) = 0 * _ - 0
      rw [Int.zero_mul]
      rfl
  | r + 1, hr => by
    have hr' : (r : Int) + 1 ≤ rho n s := by omega
    have ih := lin_cum hn hs r (by omega)
    rw [if_neg (by omega)] at ih
    rw [stL_succ, List.map_append, List.sum_append, ih]
    show _ + (((r : Int) + 1) * manyT n s ((r : Int) + 1) + 0) = _
    have a1 := rho_least (n := n) (s := s) (q := (r : Int)) hn hs (by omega) (by omega)
    have nx := Rz_next (s := s) (r := (r : Int)) (by omega) (by omega)
    have e0 : ((r + 1 : Nat) : Int) = (r : Int) + 1 := by omega
    rw [e0, show (r : Int) + 1 - 1 = r by omega]
    by_cases h : (r : Int) + 1 = rho n s
    · rw [if_pos h]
      have a2 := rho_reach (n := n) (s := s) hs
      have em : manyT n s ((r : Int) + 1) = n - Rz s r := by
        unfold manyT
        rw [show (r : Int) + 1 - 1 = r by omega, h]
        omega
      have et : tz n s = ((r : Int) + 1) * n - Rz (s + 1) r := by
        unfold tz
        rw [← h, show (r : Int) + 1 - 1 = r by omega]
      rw [em, et, nx, Int.mul_sub, Int.add_mul, Int.add_mul]
      omega
    · rw [if_neg h]
      have a3 := rho_least (n := n) (s := s) (q := (r : Int) + 1) hn hs (by omega) (by omega)
      have em : manyT n s ((r : Int) + 1) = Rz s ((r : Int) + 1) - Rz s r := by
        unfold manyT
        rw [show (r : Int) + 1 - 1 = r by omega]
        omega
      rw [em, nx, Int.mul_sub, Int.add_mul, Int.add_mul]
      omega
theorem stL_steps {n s : Int} (hn : 1 ≤ n) (hs : 1 ≤ s) : ((stL n s (rho n s).toNat).map fun p => p.1 * p.2).sum = tz n s := by
  have := rho_nonneg n s
  have h := lin_cum hn hs (rho n s).toNat (by omega)
  rw [if_pos (by omega)] at h
  exact h
theorem stL_all {n s : Int} (hn : 1 ≤ n) (hs : 1 ≤ s) : ((stL n s (rho n s).toNat).map (·.2)).sum = n - 1 := by
  have := rho_nonneg n s
  have h := stL_sum hn hs (rho n s).toNat
  have a := rho_reach (n := n) (s := s) hs
  rw [show (((rho n s).toNat : Nat) : Int) = rho n s by omega] at h
  omega
/-! ### counting in a dict -/
def bump : List (Int × Int) → Int → List (Int × Int)
  | [], t => [(t, 1)]
  | p :: r, t => if p.1 = t then (p.1, p.2 + 1) :: r else p :: bump r t
def getC (ps : List (Int × Int)) (t : Int) : Int := match ps.find? (fun p => decide (p.1 = t)) with
  | some p => p.2
  | none => 0
/-- the pairs that count L -/
def Cnt (ps : List (Int × Int)) (L : List Int) : Prop := (ps.map (·.1)).Nodup ∧ ∀ t c, (t, c) ∈ ps ↔ t ∈ L ∧ c = (L.count t : Int)
theorem bump_keys : ∀ (ps : List (Int × Int)) (t : Int), ∀ k, k ∈ (bump ps t).map (·.1) ↔ k ∈ ps.map (·.1) ∨ k = t
  | [], t, k => by simp [bump]
  | p :: r, t, k => by
    unfold bump
    by_cases h : p.1 = t
    · rw [if_pos h]
      simp only [List.map_cons, List.mem_cons]
      constructor
      · rintro (h1 | h1)
        · exact .inl (.inl h1)
        · exact .inl (.inr h1)
      · rintro ((h1 | h1) | h1)
        · exact .inl h1
        · exact .inr h1
        · exact .inl (h1.trans h.symm)
    · rw [if_neg h]
      simp only [List.map_cons, List.mem_cons, bump_keys r t k, or_assoc]
theorem bump_nodup : ∀ (ps : List (Int × Int)) (t : Int), (ps.map (·.1)).Nodup → ((bump ps t).map (·.1)).Nodup
  | [], t, _ => by simp [bump]
  | p :: r, t, h => by
    rw [List.map_cons, List.nodup_cons] at h
    unfold bump
    by_cases e : p.1 = t
    · rw [if_pos e, List.map_cons, List.nodup_cons]
      exact h
    · rw [if_neg e, List.map_cons, List.nodup_cons]
      refine ⟨fun z => ?_, bump_nodup r t h.2⟩
      rcases (bump_keys r t p.1).mp z with z | z
      · exact h.1 z
      · exact e z
theorem bump_mem : ∀ {ps : List (Int × Int)} {t : Int}, (ps.map (·.1)).Nodup → ∀ k c, (k, c) ∈ bump ps t ↔ if k = t then c = getC ps t + 1 else (k, c) ∈ ps
  | [], t, _, k, c => by
    show (k, c) ∈ [(t, 1)] ↔ _
    rw [List.mem_singleton, Prod.mk.injEq]
    by_cases h : k = t
    · rw [if_pos h]
      show _ ↔ c = 0 + 1
      constructor
      · exact fun z => z.2
      · exact fun z => ⟨h, z⟩
    · rw [if_neg h]
      exact ⟨fun z => absurd z.1 h, fun z => nomatch z⟩
  | p :: r, t, hn, k, c => by
    rw [List.map_cons, List.nodup_cons] at hn
    unfold bump
    by_cases e : p.1 = t
    · have g : getC (p :: r) t = p.2 := by
        unfold getC
        rw [List.find?_cons_of_pos (by simpa using e)]
      rw [if_pos e, g, List.mem_cons, Prod.mk.injEq]
      by_cases h : k = t
      · rw [if_pos h]
        constructor
        · rintro (z | z)
          · exact z.2
          · have z2 : k ∈ r.map (·.1) := List.mem_map.mpr ⟨_, z, rfl⟩
            rw [h.trans e.symm] at z2
            exact absurd z2 hn.1
        · exact fun z => .inl ⟨h.trans e.symm, z⟩
      · rw [if_neg h, List.mem_cons]
        constructor
        · rintro (z | z)
          · exact absurd (z.1.trans e) h
          · exact .inr z
        · rintro (z | z)
          · exact absurd ((congrArg Prod.fst z).trans e) h
          · exact .inr z
    · have g : getC (p :: r) t = getC r t := by
        unfold getC
        rw [List.find?_cons_of_neg (by simpa using e)]
      rw [if_neg e, g, List.mem_cons, bump_mem hn.2 k c]
      by_cases h : k = t
      · rw [if_pos h, if_pos h]
        constructor
        · rintro (z | z)
          · exact absurd ((congrArg Prod.fst z).symm.trans h) e
          · exact z
        · exact .inr
      · rw [if_neg h, if_neg h, List.mem_cons]
theorem getC_cnt {ps : List (Int × Int)} {L : List Int} (h : Cnt ps L) (t : Int) : getC ps t = (L.count t : Int) := by
  unfold getC
  cases hf : ps.find? (fun p => decide (p.1 = t)) with
  | some p =>
    have h1 := List.find?_some hf
    have h2 := List.mem_of_find?_eq_some hf
    have h1 : p.1 = t := by simpa using h1
    have := (h.2 p.1 p.2).mp h2
    rw [← h1]
    exact this.2
  | none =>
    have h1 := List.find?_eq_none.mp hf
    show (0 : Int) = _
    by_cases ht : t ∈ L
    · have := (h.2 t (L.count t)).mpr ⟨ht, rfl⟩
      exact absurd (by simp) (h1 _ this)
    · rw [List.count_eq_zero.mpr ht]
      rfl
theorem Cnt.bump {ps : List (Int × Int)} {L : List Int} (h : Cnt ps L) (t : Int) : Cnt (bump ps t) (L ++ [t]) := by
  refine ⟨bump_nodup ps t h.1, fun k c => ?_⟩
  rw [bump_mem h.1 k c, getC_cnt h t, List.mem_append, List.mem_singleton, List.count_append, List.count_singleton]
  by_cases e : k = t
  · subst e
    rw [if_pos rfl, if_pos (by simp)]
    constructor
    · exact fun z => ⟨.inr rfl, by omega⟩
    · exact fun z => by omega
  · rw [if_neg e, h.2 k c, if_neg (by simp only [beq_iff_eq]; exact fun z => e z.symm)]
    constructor
    · exact fun z => ⟨.inl z.1, by omega⟩
    · rintro ⟨z | z, z2⟩
      · exact ⟨z, by omega⟩
      · exact absurd z e
theorem Cnt.nil : Cnt [] [] := ⟨List.nodup_nil, fun t c => ⟨(fun h => nomatch h), fun h => absurd h.1 List.not_mem_nil⟩⟩
theorem Cnt.perm {ps : List (Int × Int)} {L : List Int} {n s : Int} (hn : 1 ≤ n) (hs : 1 ≤ s) (h : Cnt ps L) (ht : Tms L n s) : ps.Perm (stL n s (rho n s).toNat) := by
  have r0 := rho_nonneg n s
  have nd1 : ps.Nodup := by
    have := h.1
    unfold List.Nodup at this ⊢
    rw [List.pairwise_map] at this
    exact this.imp fun {a b} h e => h (by rw [e])
  have nd2 : (stL n s (rho n s).toNat).Nodup := by
    unfold stL List.Nodup
    rw [List.pairwise_map]
    refine List.Pairwise.imp (R := (· < ·)) (fun {a b} h e => ?_) List.pairwise_lt_range
    injection e with e1 _
    omega
  refine (List.perm_ext_iff_of_nodup nd1 nd2).mpr fun p => ?_
  obtain ⟨t, c⟩ := p
  rw [h.2 t c, stL_mem]
  constructor
  · rintro ⟨h1, rfl⟩
    have t1 := (ht.1 t h1).1
    have hc := ht.count hn hs t1
    have : 0 < L.count t := List.count_pos_iff.mpr h1
    have := (manyT_pos (n := n) (s := s) hn hs t1).mp (by omega)
    exact ⟨t1, by omega, hc⟩
  · rintro ⟨t1, t2, rfl⟩
    have hc := ht.count hn hs t1
    have := (manyT_pos (n := n) (s := s) hn hs t1).mpr (by omega)
    exact ⟨List.count_pos_iff.mp (by omega), hc.symm⟩
end Bs

namespace Bs
open PySem PySem.Spec PyProof.Rows L2 LiI
open Evl (Ex)
/-! ### sorted(d.items()), d a dict of numbers by numbers -/
def intKvs (ps : List (Int × Int)) : List (Key × V) := ps.map fun p => (Sum.inl p.1, V.int p.2)
/-- pairs of numbers, ascending -/
def SrtP (qs : List (Int × Int)) : Prop := SrtO.Srtd SrtO.lexB qs
def rItemsS : V → Hp → VK → Prop := fun x H Q => ∃ (d : Addr) (ps : List (Int × Int)), x = .ref d ∧ H d = some (.dK (intKvs ps)) ∧
  ∀ (H' : Hp) (p : Addr) (ts : List Addr) (qs : List (Int × Int)), Ex H H' → H p = none → (∀ t ∈ ts, H t = none ∧ t ≠ p) → qs.Perm ps → SrtP qs → H' p = some (.lst (ts.map V.ref)) →
    Paired (fun (t : Addr) (q : Int × Int) => H' t = some (.tup [.int q.1, .int q.2])) ts qs → Q (.ref p) H'
def tSortItems (te : TE) : TE := fun σ H Q => te σ H fun x H1 => rItemsS x H1 Q
theorem paired_of {α β : Type} {F : α → β → Prop} : ∀ {xs : List α} {ys : List β}, xs.length = ys.length → (∀ (i : Nat) x y, xs[i]? = some x → ys[i]? = some y → F x y) → Paired F xs ys
  | [], [], _, _ => .nil
  | [], _ :: _, h, _ => by cases h
  | _ :: _, [], h, _ => by cases h
  | x :: xs, y :: ys, h, k => .cons (k 0 x y rfl rfl) (paired_of (Nat.succ.inj h) fun i a b e1 e2 => k (i + 1) a b e1 e2)
section
variable {X : Cx} {e : Expr} {te : TE} {p apos cpos pos : Pos}
theorem items_laid2 {pins : List (Addr × Obj)} {σ : L2.St} {H : Hp} {s : Shared} {h' : Heap} {tk : Nat} {kvs : List (Key × V)} {vs : List (Key × Value)} {as : List Addr} (I : Inv X pins σ H s) (kv : KV kvs vs)
    (hk : ∀ b o, s.heap.get? b = some o → h'.get? b = some o) (hl : as.length = vs.length) (hG : PySem.W.KdxG (mixKind X.prog X.w) vs s.heap.objs.size h' as) :
    ∃ H' : Hp, Ex H H' ∧ (∀ t ∈ as, H t = none) ∧ (∀ b, b ∉ as → H' b = H b) ∧ Paired (fun (t : Addr) (q : Key × V) => H' t = some (.tup [kV q.1, q.2])) as kvs ∧ Inv X pins σ H' { s with heap := h', toks := tk } := by
  have lk : kvs.length = vs.length := Paired.length kv
  have nd : as.Nodup := List.Pairwise.imp (fun {a b} (h : a < b) => Nat.ne_of_lt h) hG.rise
  have new : ∀ t ∈ as, H t = none := fun t ht => I.hok.fresh (Nat.le_of_lt (hG.above t ht))
  have atP := putT_at as kvs H (by omega) nd
  have off : ∀ b, b ∉ as → putT H as kvs b = H b := fun b h1 => putT_off as kvs _ h1
  have low : ∀ b o, s.heap.get? b = some o → b ∉ as := fun b o e z => absurd (Heap.lt_size e) (Nat.not_lt.mpr (Nat.le_of_lt (hG.above b z)))
  have kp : ∀ b u, H b = some u → (putT H as kvs) b = some u := fun b u e => by
    rw [off b (fun z => by rw [new b z] at e; cases e)]
    exact e
  refine ⟨putT H as kvs, kp, new, off, atP, ?_⟩
  refine I.call' (ch := []) rfl ⟨fun b o q _ _ _ => hk b o q, fun b o q _ _ _ => ⟨o.slots, hk b o q⟩, fun b o q n _ => ?_, fun b o q _ => ⟨o, hk b o q⟩, fun b xs q => kp b _ q, fun b o u q => kp b _ q, fun b ps q => ⟨#[], by rw [kp b _ q]; simp⟩⟩ (fun b u q => ?_) I.bare fun b z => by simp at z
  · rw [off b (low b o q)]
    exact n
  · by_cases hb : b ∈ as
    · obtain ⟨j, pk, e1, e2, e3⟩ := paired_ix atP hb
      rw [e3] at q
      cases q
      obtain ⟨key, k, x, f1, f2, f3⟩ := hG.pairs j b e1
      obtain ⟨qv, g1, g2, g3⟩ := LiI.paired_get kv e2
      rw [f1] at g1
      cases g1
      have rk : RelV (kV pk.1) key := by
        rw [g2]
        exact relV_key (show keyIs k key = true from f2)
      exact ⟨by show 2 ≤ sizeLine; decide, [key, x], .cons rk (.cons g3 .nil), ⟨_, f3, rfl, _, rfl⟩⟩
    · rw [off b hb] at q
      exact (I.hok b u q).stay (fun d v _ y => hk d v y) (fun d y => kp d _ y) fun d xs y => kp d _ y
theorem pe_sortedItems (hc : X.calm = true) (he : PE X e te) (hg : Gl X "sorted") (hm : X.mg "sorted" = none) (hv : bootBuiltins "sorted" = some (.builtin "sorted")) (hbase : attributeBase e "items" X.env (eval e X.env) = eval e X.env := by rfl) (hline : (apos.endLine == cpos.line) = true := by rfl)
    (hs : starEach [.Call (.Attribute e "items" apos) [] [] cpos] X.env = (false, eval (.Call (.Attribute e "items" apos) [] [] cpos) X.env) :: starEach [] X.env := by rfl) :
    PE X (.Call (.Name "sorted" p) [.Call (.Attribute e "items" apos) [] [] cpos] [] pos) (tSortItems te) := by
  refine ⟨fun pins s σ H Q I hq => ?_⟩
  refine wpAny_Call_Name_kw (ld_blt I hg hm hv ?_)
  refine PyProof.Rows.callWith_builtin1 ?_ hs rfl
  rw [hs]
  show wpAny _ _ (spliced ((false, eval (.Call (.Attribute e "items" apos) [] [] cpos) X.env) :: backTo pos (starEach [] X.env))) _ _ s
  refine Calls.spliced_cons ?_
  refine wpAny_Call_method (T := "dict") (id := "dict.items") hbase rfl hline F.plainAttrs_dict F.slot_dict_items F.type_dict_items (thn (he.run pins s σ H _ I hq) fun u s1 ⟨x, H1, I1, rx, d, ps, ex, hd, q⟩ => ?_)
  subst ex
  obtain rfl : u = Value.ref d := rx
  obtain ⟨hz, hs0, vs, kv, hdo⟩ := I1.hok d _ hd
  obtain ⟨ep, hat⟩ := hdo.dictAt
  have lk : (intKvs ps).length = vs.length := Paired.length kv
  have I2 : Inv X pins σ H1 { s1 with heap := s1.heap.push { cls := .type "dict_items", data := .fields #[.ref d] } } := I1.kept (t' := s1.toks) fun b ob q => Heap.get?_push_of_some _ q
  refine ⟨hdo.typeIs, hdo.mapOf.noDict, ?_⟩
  show wpAny _ _ (callWith cpos (.builtin "dict.items") [.ref d] [] []) _ X.xe s1
  refine method_meetsIn F.slot_dict_items F.entry_dict_items rfl (PySem.evalArgs_none ⟨rfl, hdo.typeIs, F.args_dict_items_1 _, _, meets_dict_items (mixKind X.prog X.w) d hs0, ⟨vs, hdo⟩, ?_⟩)
  refine Calls.spliced_nil ?_
  refine Calls.call_function_entry kind_sorted plain_sorted entry_sorted (args_sorted1 _) ?_
  unfold Builtin.«sorted»
  refine wpAny_bind (m := checkCount "sorted" 1 1 _) (wpAny_pure ?_)
  refine wpAny_bind (PySem.W.kdx_collect (A := X.A.in1) (knd := mixKind X.prog X.w) (kvs := vs) (ep := ep) (I1.ok.hd hc) ⟨_, Heap.get?_push_size _ rfl, rfl, rfl⟩ (hat.push _) (by omega) fun h' tk as hk hl hG => ?_)
  obtain ⟨H2, e2, n2, off2, pr2, I3⟩ := items_laid2 (tk := tk) I2 kv hk hl hG
  have lz : (as.map Value.ref).length ≤ sizeLine := by rw [List.length_map, hl]; omega
  refine wpAny_bind (wpAny_newList ?_ lz)
  -- the pairs of the tuples
  have atI : ∀ (i : Nat) (t : Addr) (q : Int × Int), as[i]? = some t → ps[i]? = some q → H2 t = some (.tup [.int q.1, .int q.2]) := fun i t q h1 h2 => by
    obtain ⟨y, g1, g2⟩ := LiI.paired_get pr2 h1
    unfold intKvs at g1
    rw [List.getElem?_map, h2] at g1
    cases g1
    exact g2
  have lps : as.length = ps.length := by
    have : (intKvs ps).length = ps.length := by unfold intKvs; rw [List.length_map]
    omega
  let kk : V → Int × Int := fun v => match v with
    | .ref t => (match H2 t with
      | some (.tup [.int i, .int j]) => (i, j)
      | _ => (0, 0))
    | _ => (0, 0)
  have kkP : ∀ (i : Nat) (t : Addr) (q : Int × Int), as[i]? = some t → ps[i]? = some q → kk (.ref t) = q := fun i t q h1 h2 => by
    show (match H2 t with | some (.tup [.int i, .int j]) => (i, j) | _ => (0, 0)) = q
    rw [atI i t q h1 h2]
  have psOf : ∀ t ∈ as, ∃ q, H2 t = some (.tup [.int q.1, .int q.2]) ∧ kk (.ref t) = q := fun t ht => by
    obtain ⟨i, hi⟩ := List.getElem?_of_mem ht
    have hl := (List.getElem?_eq_some_iff.mp hi).1
    have h2 : ps[i]? = some ps[i] := List.getElem?_eq_getElem (by omega)
    exact ⟨_, atI i t _ hi h2, kkP i t _ hi h2⟩
  have mps : (as.map V.ref).map kk = ps := by
    refine List.ext_getElem? fun i => ?_
    rw [List.map_map, List.getElem?_map]
    by_cases hi : i < as.length
    · rw [List.getElem?_eq_getElem hi, List.getElem?_eq_getElem (show i < ps.length by omega)]
      exact congrArg some (kkP i _ _ (List.getElem?_eq_getElem hi) (List.getElem?_eq_getElem (by omega)))
    · rw [List.getElem?_eq_none (by omega), List.getElem?_eq_none (by omega)]
      rfl
  have hoL : (h'.push (seqObj "list" (as.map Value.ref).toArray 0)).get? h'.objs.size = some (seqObj "list" (as.map Value.ref).toArray 0) := Heap.get?_push_size _ rfl
  have isP : ∀ v ∈ as.map Value.ref, Srt.IsPair (h'.push (seqObj "list" (as.map Value.ref).toArray 0)) v (kk (backV v)).1 (kk (backV v)).2 := fun v hv => by
    obtain ⟨t, ht, rfl⟩ := List.mem_map.mp hv
    obtain ⟨q, hq, hkq⟩ := psOf t ht
    show Srt.IsPair _ _ (kk (.ref t)).1 (kk (.ref t)).2
    rw [hkq]
    obtain ⟨_, its2, r2, o, ho, hc2, n, hd2⟩ := I3.hok _ _ hq
    obtain ⟨u1, u2, rfl, ri, rj⟩ := vals2 r2
    obtain ⟨t1, rfl⟩ := ri
    obtain ⟨t2, rfl⟩ := rj
    exact ⟨t, o, t1, t2, n, rfl, Heap.get?_push_of_some _ ho, hc2, hd2⟩
  refine wpAny_bind (wpAny_holding (wpAny_call_entry slot_list_sort ⟨_, hoL, rfl⟩ entry_list_sort (SrtO.list_sort_ord (SrtO.swo_lex fun u => kk (backV u)) hoL lz (fun h2 => ?_) fun out hs1 hb => ⟨_, rfl, ?_⟩) (args_list_sort _)))
  · refine SrtO.pairs_sortableO (s := { s1 with heap := h'.push (seqObj "list" (as.map Value.ref).toArray 0), toks := tk }) (by omega) isP fun o e => ?_
    have e' : some o = some (seqObj "list" (as.map Value.ref).toArray 0) := e.symm.trans hoL
    cases e'
    intro c
    exact absurd (Value.type.inj c) (by decide)
  · refine wpAny_pure ⟨_, rfl, ?_⟩
    have h3 : ∀ u ∈ out, ∃ a, u = Value.ref a := fun u hu => by
      obtain ⟨a, _, rfl⟩ := List.mem_map.mp (hb.perm.mem_iff.mp hu)
      exact ⟨a, rfl⟩
    have hbV : SrtO.Stb (ltP kk) (out.map backV) (as.map V.ref) := by
      have := SrtO.Stb.map (ltP_swo kk) backV hb
      have e9 : (as.map Value.ref).map backV = as.map V.ref := by rw [List.map_map]; rfl
      rw [e9] at this
      exact this
    obtain ⟨n, hn⟩ := sortedHeap_at (out := out.toArray) hoL
    have kpN : ∀ b o, h'.get? b = some o → (sortedHeap (h'.push (seqObj "list" (as.map Value.ref).toArray 0)) h'.objs.size (as.map Value.ref) out.toArray).get? b = some o := fun b o z => by
      have lt := Heap.lt_size z
      rw [sortedHeap_old (Nat.ne_of_lt lt) (by rw [size_push']; exact Nat.lt_succ_of_lt lt)]
      exact Heap.get?_push_of_some _ z
    have lo : out.length = as.length := by
      have := hb.perm.length_eq
      rw [List.length_map] at this
      exact this
    have J : Inv X pins σ (upd H2 h'.objs.size (.lst (out.map backV))) { s1 with heap := sortedHeap (h'.push (seqObj "list" (as.map Value.ref).toArray 0)) h'.objs.size (as.map Value.ref) out.toArray, toks := tk } := by
      refine I3.laid (t' := tk) (a := h'.objs.size) kpN (Nat.le_refl _) ⟨?_, out, n, vals_back h3, hn⟩
      rw [List.length_map, lo, hl]
      omega
    have nB : H2 h'.objs.size = none := I3.hok.fresh (Nat.le_refl _)
    -- the addresses as they stand behind
    obtain ⟨ts, ets, hts⟩ : ∃ ts : List Addr, out.map backV = ts.map V.ref ∧ ∀ t ∈ ts, t ∈ as := by
      have all : ∀ l : List Value, (∀ u ∈ l, u ∈ as.map Value.ref) → ∃ ts : List Addr, l.map backV = ts.map V.ref ∧ ∀ t ∈ ts, t ∈ as := by
        intro l
        induction l with
        | nil => exact fun _ => ⟨[], rfl, fun _ h => nomatch h⟩
        | cons u l ih =>
          intro h
          obtain ⟨ts, e1, e3⟩ := ih fun v hv => h v (List.mem_cons_of_mem _ hv)
          obtain ⟨t, ht, rfl⟩ := List.mem_map.mp (h u (List.mem_cons_self ..))
          refine ⟨t :: ts, by rw [List.map_cons, List.map_cons, e1]; rfl, fun x hx => ?_⟩
          rcases List.mem_cons.mp hx with rfl | hx
          · exact ht
          · exact e3 x hx
      exact all out fun u hu => hb.perm.mem_iff.mp hu
    rw [ets] at J hbV
    have hsV : SrtO.Srtd (ltP kk) (ts.map V.ref) := by
      rw [← ets]
      exact SrtO.srtd_map hs1
    have kkT : ∀ t ∈ ts, H2 t = some (.tup [.int (kk (.ref t)).1, .int (kk (.ref t)).2]) := fun t ht => by
      obtain ⟨q, h1, h2⟩ := psOf t (hts t ht)
      rw [h2]
      exact h1
    refine ⟨.ref _, _, J, rfl, q _ _ ts ((ts.map V.ref).map kk) (e2.trans (exn nB)) (Evl.fresh_back e2 nB) (fun t ht => ⟨n2 t (hts t ht), fun z => ?_⟩) ?_ ?_ upd_same ?_⟩
    · have := kkT t ht
      rw [z, nB] at this
      cases this
    · have := (hbV.perm.map kk)
      rw [mps] at this
      exact this
    · unfold SrtP SrtO.Srtd
      rw [List.pairwise_map]
      exact hsV
    · refine paired_of (by rw [List.length_map, List.length_map]) fun i t q h1 h2 => ?_
      rw [List.map_map, List.getElem?_map, h1] at h2
      cases h2
      have ht := List.mem_of_getElem? h1
      exact exn nB _ _ (kkT t ht)
end
/-! ### list(range(i, j, -1)) -/
def tLstRg3 (ta : TA) : TE := fun σ H Q => ta σ H fun us H1 => ∃ (i j : Int), us = [.int i, .int j, .int (-1)] ∧ -(2 ^ 62) ≤ i ∧ i < 2 ^ 62 ∧ -(2 ^ 62) ≤ j ∧ j < 2 ^ 62 ∧ (i - j).toNat ≤ 2 ^ 24 ∧
  ∀ q, H1 q = none → Q (.ref q) (upd H1 q (.lst ((List.range (i - j).toNat).map fun (k : Nat) => V.int (i - (k : Int)))))
section
variable {X : Cx} {a b c : Expr} {ta : TA} {p pos p2 pos2 : Pos}
theorem pe_listRg3 (hc : X.calm = true) (hg : Gl X "list") (hm : X.mg "list" = none) (hg2 : Gl X "range") (hm2 : X.mg "range" = none) (ha : PA X [a, b, c] ta)
    (na : starEach [.Call (.Name "range" p2) [a, b, c] [] pos2] X.env = (false, eval (.Call (.Name "range" p2) [a, b, c] [] pos2) X.env) :: starEach [] X.env := by rfl)
    (hs : starEach [a, b, c] X.env = (false, eval a X.env) :: starEach [b, c] X.env := by rfl) (hpl : (backTo pos2 (starEach [b, c] X.env)).any (·.1) = false := by rfl) :
    PE X (.Call (.Name "list" p) [.Call (.Name "range" p2) [a, b, c] [] pos2] [] pos) (tLstRg3 ta) := by
  refine ⟨fun pins s σ H Q I h => ?_⟩
  refine Call_ (ld_blt I hg hm boot_list (PyProof.Rows.callWith_type1 (args_cons ?_ na) na))
  refine Call_ (ld_blt I hg2 hm2 boot_range (PyProof.Rows.callWith_type1 (thn (ha.run pos2 pins s σ H _ I h) fun us s1 ⟨vs, H1, I1, r1, q1⟩ => ?_) hs hpl))
  obtain ⟨i, j, e, b1, b2, b3, b4, b5, q⟩ := q1
  subst e
  obtain ⟨c0, c1, c2, c3⟩ := RgC.neg (i := i) (j := j) b1 b2 b3 b4
  cases r1 with
  | cons r rr =>
    cases rr with
    | cons r' rr =>
      cases rr with
      | cons r'' rr =>
        cases rr
        obtain ⟨t, rfl⟩ := r
        obtain ⟨t', rfl⟩ := r'
        obtain ⟨t'', rfl⟩ := r''
        refine call_range_3 c0 ?_ (.inl (PyProof.noPylong_small c1))
        have I2 : Inv X pins σ H1 { s1 with heap := s1.heap.push { cls := .type "range", data := .fields #[.int i t, .int j t', .int (-1) t''] } } := I1.kept (t' := s1.toks) fun b o e => Heap.get?_push_of_some _ e
        refine args_nil ?_
        refine call_list_range (n := (i - j).toNat) (I2.ok.hd hc) (IsRange.new ..) c2 c3 b5 fun h' tk acc c' hk e' hi => ?_
        refine ⟨.ref _, upd H1 _ (.lst ((List.range (i - j).toNat).map fun (k : Nat) => V.int (i - (k : Int)))), I2.laid hk (Nat.le_refl _) (show ObjOk X.prog X.w _ _ _ (.lst ((List.range (i - j).toNat).map fun (k : Nat) => V.int (i - (k : Int)))) from ⟨?_, acc.toList, c', ?_, ?_⟩), rfl, q _ (I2.hok.fresh (Nat.le_refl _))⟩
        · rw [List.length_map, List.length_range, sizeLine_eq]; omega
        · have el : acc.toList.length = (i - j).toNat := by rw [Array.length_toList]; exact hi.1
          rw [← el]
          refine vals_of_get acc.toList _ fun k u hk => ?_
          obtain ⟨t, rfl⟩ := hi.2 k u (by rw [← hk, Array.getElem?_toList])
          exact ⟨t, by rw [show i - (k : Int) = i + (k : Nat) * (-1) by omega]⟩
        · rw [Array.toArray_toList]; exact e'
end
end Bs

namespace Bs
open PySem PySem.Spec PyProof.Rows L2
open Evl (Ex)
/-! ### sorted(set(xs)), xs a list of numbers -/
section
variable {P : Program} {w : World} {A : Around} {E : Value → Shared → Prop} {s : Shared}
abbrev set0 (w : World) : Obj := { cls := .type "set", dict := none, data := .set #[] 0 (.fresh 0 0 (!w.params.followText "set-order")) }
/-- what an update by a list of numbers leaves -/
def Put (w : World) (s : Shared) (ns : List Int) (r : Value) (s2 : Shared) : Prop := r = .none ∧ ∃ h' tk c, s2 = { s with heap := h', toks := tk } ∧ SetR w h' s.heap.objs.size (fun j => decide (j ∈ ns)) c ∧ c ≤ ns.length ∧ ∀ b o, s.heap.get? b = some o → h'.get? b = some o
theorem init_li {l : Addr} {items : Array Value} (ns : List Int) (hh : A.handled = none) (hl : s.heap.IsList l items) (hit : IntsAre items.toList ns) (hb : ns.length + 1 < scanBound) :
    codeAny (model P w) A (.call (.builtin "set.__init__") ⟨[.ref s.heap.objs.size, .ref l], []⟩) (wants (Put w s ns) E) { s with heap := s.heap.push (set0 w) } := by
  have hisz : items.size = ns.length := by
    have q := IntsAre.length hit
    rw [Array.length_toList] at q
    exact q
  have hS : (s.heap.push (set0 w)).get? s.heap.objs.size = some (set0 w) := Heap.get?_push_size _ rfl
  have hT : Shared.TypeIs { s with heap := s.heap.push (set0 w) } (.ref s.heap.objs.size) "set" := ⟨_, hS, rfl⟩
  refine codeAny_call_builtin F.called_set.init.plain F.entry_set_init (check_set_init_1 hT ?_)
  obtain ⟨⟨ocls, odict, odata, oslots⟩, hol, hcl, nl, hdl⟩ := hl
  simp only at hcl hdl
  subst hcl hdl
  have lt : l < s.heap.objs.size := Heap.lt_size hol
  have hol' := Heap.get?_push_of_some (set0 w) hol
  have hsls := F.sub_list_set
  have hslf := F.sub_list_frozenset
  have hne : (Value.type "list" == Value.type "dict") = false := by decide
  have hl1 : (s.heap.push (set0 w)).IsList l items := ⟨_, hol', rfl, nl, rfl⟩
  unfold Builtin.«set.__init__» noKeywords Builtin.Frozenset.updateFrom
  generalize hPI : pyIter = PI
  wp_walk
  subst hPI
  refine wpAny_pyIter_list hl1 (wpAny_bind (wpAny_runValue ?_))
  have h3 : A.in1.in1.handled = none := by simp [hh]
  have sz : (s.heap.push (set0 w)).objs.size = s.heap.objs.size + 1 := Heap.size_push ..
  have val : ∀ (i : Nat) (v : Value), items[i]? = some v → ∃ k t, ns[i]? = some k ∧ v = .int k t := fun i v hv => by
    have hi : i < ns.length := by rw [← hisz]; exact (Array.getElem?_eq_some_iff.mp hv).1
    obtain ⟨t, e⟩ := PyProof.Rows.IntsAre.int_at hit i v (by rw [Array.getElem?_toList]; exact hv)
    refine ⟨ns[i], t, List.getElem?_eq_getElem hi, ?_⟩
    rw [e, List.getD_eq_getElem?_getD, List.getElem?_eq_getElem hi] <;> rfl
  have W := (Walks.list (prog := P) (w := w) h3 (s.heap.push (set0 w)).objs.size l (by rw [sz]; exact Nat.ne_of_lt (Nat.lt_succ_of_lt lt)) items).toS
  have hget : ((s.heap.push (set0 w)).push { cls := .type "list_iterator", data := .fields #[.ref l, .int 0 0] }).get? s.heap.objs.size = some (set0 w) := Heap.get?_push_of_some _ hS
  refine set_update_ints W s.heap.objs.size (by rw [sz]; simp only [List.mem_cons, List.not_mem_nil, or_false, not_or]; exact ⟨Nat.ne_of_lt (Nat.lt_succ_self _), Nat.ne_of_gt lt⟩) ns hisz hb val (items.size - 0) 0 _ (by omega) (Nat.zero_le _) ?hst ?h0 ?h1
  case hst => exact ⟨⟨_, Heap.get?_push_size _ rfl, rfl, rfl⟩, hl1.push _⟩
  case h0 => exact ⟨0, Nat.le_refl 0, setR_new_at hget⟩
  intro s' c hm hc hR
  obtain ⟨h', g', d', tk', os'⟩ := s'
  obtain rfl : g' = s.gens := hm.gens
  obtain rfl : d' = s.drawn := hm.drawn
  obtain rfl : os' = s.os := hm.os
  refine wpAny_pure (wpAny_pure ⟨rfl, h', tk', c, rfl, hR, by omega, fun b o e => ?_⟩)
  have lb := Heap.lt_size e
  exact hm.heap b o (by rw [sz]; simp only [List.mem_cons, List.not_mem_nil, or_false, not_or]; exact ⟨Nat.ne_of_lt lb, Nat.ne_of_lt (Nat.lt_succ_of_lt lb)⟩) (Heap.get?_push_of_some _ (Heap.get?_push_of_some _ e))
theorem call_set_li {l : Addr} {items : Array Value} (ns : List Int) {Q : Value → Shared → Prop} (hh : A.handled = none) (hl : s.heap.IsList l items) (hit : IntsAre items.toList ns) (hb : ns.length + 1 < scanBound)
    (h : ∀ r s2, Put w s ns r s2 → Q (.ref s.heap.objs.size) s2) : wpAny (model P w) A (call (.type "set") [.ref l]) Q E s := by
  obtain ⟨c, tl, hmro⟩ := F.called_set.mro
  have hmade := F.called_set.made
  have hsub := F.called_set.sub
  refine wpAny_call (codeAny_of_tree ?_)
  show wpAny _ _ (callAny (.type "set") _) _ _ _
  refine wpAny_pure ⟨Code.quiet_builtin _ (by decide +kernel), codeAny_builtin F.entry_type_call ?_⟩
  rw [Around.under_plain (weight_type_call_type "set" [.ref l] []) rfl]
  have h1 := F.called_set.notType
  have h2 := F.called_set.canCreate
  have hct := F.typeCall_set_1 (.ref l)
  repeat (any_goals (first | assumption | wp_step))
  refine codeAny_mono (code_set_led1 (.ref l) (E := E) (Q₁ := fun obj s1 => obj = .ref s.heap.objs.size ∧ s1 = { s with heap := s.heap.push (set0 w) }) ⟨rfl, rfl⟩) fun r s1 hr => ?_
  cases r with
  | error e => exact hr
  | ok fl =>
    cases fl with
    | ret obj =>
      obtain ⟨rfl, rfl⟩ := hr
      have hT : Shared.TypeIs { s with heap := s.heap.push (set0 w) } (.ref s.heap.objs.size) "set" := ⟨_, Heap.get?_push_size _ rfl, rfl⟩
      have hli := F.called_set.init.lookup
      have hbi := F.called_set.init.bind (.ref s.heap.objs.size)
      repeat (any_goals (first | assumption | wp_step))
      refine codeAny_mono (init_li (E := E) ns (by simp [hh]) hl hit hb) fun r2 s2 hr2 => ?_
      cases r2 with
      | error e => exact hr2
      | ok fl2 =>
        cases fl2 with
        | ret r =>
          obtain rfl : r = .none := hr2.1
          repeat (any_goals (first | assumption | wp_step))
          exact h _ _ hr2
        | _ => exact hr2.elim
    | _ => exact hr.elim
end
def tSortSet (K : PySem.W.Frag) (te : TE) : TE := fun σ H Q => te σ H fun x H1 => ∃ (l : Addr) (ns : List Int), x = .ref l ∧ SqL K H1 l (ns.map V.int) ∧ ns.length < 64 ∧ ∀ (out : List Int) (p : Addr), out.Pairwise (· < ·) → (∀ k, k ∈ out ↔ k ∈ ns) → H1 p = none → Q (.ref p) (upd H1 p (.lst (out.map V.int)))
theorem ints_vals : ∀ {ns : List Int} {vs : List Value}, Vals (ns.map V.int) vs → IntsAre vs ns
  | [], _, .nil => .nil
  | n :: ns, _, .cons r t => by
    obtain ⟨k, rfl⟩ := r
    exact .cons n k (ints_vals t)
theorem pe_sortSet {X : Cx} {a : Expr} {ta : TE} {p p2 q pos : Pos} (hc : X.calm = true) (ha : PE X a ta) (hg : Gl X "sorted") (hm : X.mg "sorted" = none) (hv : bootBuiltins "sorted" = some (.builtin "sorted")) (hg2 : Gl X "set") (hm2 : X.mg "set" = none) (hv2 : bootBuiltins "set" = some (.type "set"))
    (na : starEach [a] X.env = (false, eval a X.env) :: starEach [] X.env := by rfl) : PE X (.Call (.Name "sorted" p) [.Call (.Name "set" p2) [a] [] q] [] pos) (tSortSet X.K ta) := by
  refine ⟨fun pins s σ H Q I h => ?_⟩
  refine Call_ (ld_blt I hg hm hv ?_)
  refine PyProof.Rows.callWith_builtin1 (PyProof.Rows.args_cons ?_ rfl) rfl rfl
  refine Call_ (ld_blt I hg2 hm2 hv2 ?_)
  refine PyProof.Rows.callWith_type1 (PyProof.Rows.args_cons (thn (ha.run pins s σ H _ I h) fun v s1 ⟨x, H1, I1, r1, q1⟩ => PyProof.Rows.args_nil ?_) na) na rfl
  obtain ⟨l, ns, rfl, hq, hl, q1⟩ := q1
  cases r1
  obtain ⟨its, r, pl, hz⟩ := I1.list hq
  refine call_set_li ns (I1.ok.hd hc) pl.isList (by simpa using ints_vals r) (by unfold scanBound; omega) fun _ s2 ⟨_, h', tk, c, e2, hS, hcl, hk⟩ => PyProof.Rows.args_nil ?_
  subst e2
  have I2 : Inv X pins σ H1 { s1 with heap := h', toks := tk } := I1.kept fun b o e => hk b o e
  refine sorted_set hS (I2.ok.hd hc) (by omega) fun s' p out c2 ks k g o hp hg' hi hs hmm hlen => ?_
  have hlen2 : (ks.map V.int).length ≤ sizeLine := by rw [List.length_map, hlen, sizeLine_eq]; omega
  have hn : H1 p = none := I2.hok.fresh hp
  have J : Inv X pins σ (upd H1 p (.lst (ks.map V.int))) { s1 with heap := s'.heap, gens := s'.gens, drawn := s'.drawn, toks := s'.toks } :=
    Inv.call (s := { s1 with heap := h', toks := tk }) (ch := []) I2 (Un.laid k hp hn) (I2.hok.laid k hp ⟨hlen2, out.toList, c2, vals_of_ints hi, hg'⟩) (by rw [g]; exact I2.bare) (fun _ z => nomatch z)
  have e : s' = { s1 with heap := s'.heap, gens := s'.gens, drawn := s'.drawn, toks := s'.toks } := by
    cases s'
    cases s1
    cases o
    rfl
  rw [e]
  exact ⟨.ref p, _, J, rfl, q1 ks p hs (fun k => by rw [hmm]; simp) hn⟩
end Bs

namespace Bs
open PySem PySem.Spec PyProof.Rows L2
open Evl (Ex)
/-! ### ranges of any numbers -/
theorem turn_long {P : Program} {w : World} {K : PySem.W.Frag} {tg : Expr} (it : Addr) (lo : Int) (n : Nat) : Turn P w K tg (Itr lo n) [it] it (fun i h => IsLongIter h it (lo + (i : Nat) * 1) ((n : Int) - (i : Nat)) 1) where
  mem := by simp
  obj := fun i h st b hb => by
    obtain rfl : b = it := by simpa using hb
    exact ⟨_, st, fun v z => nomatch (show Data.fields _ = Data.cell v from z)⟩
  keep := fun i h h' st k => k it (by simp) _ st
  item := by
    intro X hP hw hK hc i pins s σ H E I hf st hg
    subst hP hw hK
    obtain ⟨f0, f1, f2, f3, f4, f5⟩ := hf it (by simp)
    refine (Walks.longrange (prog := X.prog) (w := X.w) (I.ok.hd hc) it lo 1 n).item i s _ _ hg st fun v h' tk hv st' kk => ?_
    obtain ⟨t, rfl⟩ := hv
    have I1 : Inv X pins σ H { s with heap := h', toks := tk } := I.turned (fun b o hb e => kk b o (by simpa using hb) e) f0 f1 f3 f4 f5
    exact ⟨_, rfl, go_of (s := { s with heap := h', toks := tk }) (n := "longrange_iterator") st' rfl rfl (by decide) ⟨.int (lo + i), H, I1, ⟨t, by rw [Int.mul_one]⟩, ⟨rfl, rfl⟩, st', fun b hb => (hf b hb).1⟩⟩
  done := by
    intro X hP hw hK hc i pins s σ H E I hf st hg
    subst hP hw hK
    obtain ⟨f0, f1, f2, f3, f4, f5⟩ := hf it (by simp)
    exact wpAny_pyNext_long_end (I.ok.hd hc) st (by have : n ≤ i := hg; omega) fun h' eb => ⟨rfl, I.turned (t' := s.toks) (fun b o hb e => eb b o hb e) f0 f1 f3 f4 f5⟩
  self := fun _ _ _ _ _ st h => wpAny_pyIter_longiter st h
section
variable {X : Cx} {tg : Expr}
theorem range_itL {pins : List (Addr × Obj)} {σ : L2.St} {H : Hp} {s : Shared} {R : It → Hp → Prop} {E : Value → Shared → Prop} {lo hi : Int} {t u v : Tok} {tk : Nat} (I : Inv X pins σ H s)
    (q : R (Itr lo (hi - lo).toNat) H) : wpAny (model X.prog X.w) X.A (pyIter (.ref s.heap.objs.size)) (PIE X pins σ tg R) E { s with heap := s.heap.push { cls := .type "range", data := .fields #[.int lo t, .int hi u, .int 1 v] }, toks := tk } := by
  have I1 : Inv X pins σ H { s with heap := s.heap.push { cls := .type "range", data := .fields #[.int lo t, .int hi u, .int 1 v] }, toks := tk } := I.kept fun b o e => Heap.get?_push_of_some _ e
  have e1 : lo + ((0 : Nat) : Int) * 1 = lo := by simp
  have e2 : (((hi - lo).toNat : Nat) : Int) - ((0 : Nat) : Int) = Builtin.Range.rangeSize lo hi 1 := by rw [rangeSize_one]; split <;> omega
  have fp : ∀ b ∈ [(s.heap.push { cls := .type "range", data := .fields #[.int lo t, .int hi u, .int 1 v] }).objs.size], FpOk X pins H b := fun b hb => by
    obtain rfl : b = (s.heap.push { cls := .type "range", data := .fields #[.int lo t, .int hi u, .int 1 v] }).objs.size := by simpa using hb
    exact I1.fpOk (Nat.le_refl _) (I1.hok.fresh (Nat.le_refl _))
  cases hsm : Builtin.Range.small lo hi 1 with
  | true =>
    refine wpAny_pyIter_range (IsRange.new ..) hsm ⟨_, [_], _, _, H, rfl, I1.kept (t' := tk) fun b o e => Heap.get?_push_of_some _ e, turn_range _ lo (hi - lo).toNat, ?_, fp, q⟩
    show IsRangeIter _ _ (lo + ((0 : Nat) : Int) * 1) ((((hi - lo).toNat : Nat) : Int) - ((0 : Nat) : Int)) 1
    rw [e1, e2]
    exact Heap.get?_push_size _ rfl
  | false =>
    refine wpAny_pyIter_longrange (IsRange.new ..) hsm ⟨_, [_], _, _, H, rfl, I1.kept (t' := tk) fun b o e => Heap.get?_push_of_some _ e, turn_long _ lo (hi - lo).toNat, ?_, fp, q⟩
    show IsLongIter _ _ (lo + ((0 : Nat) : Int) * 1) ((((hi - lo).toNat : Nat) : Int) - ((0 : Nat) : Int)) 1
    rw [e1, e2]
    exact Heap.get?_push_size _ rfl
def iRng2L (ta : TA) : TI := fun σ H R => ta σ H fun vs H1 => ∃ i j : Int, vs = [.int i, .int j] ∧ R (Itr i (j - i).toNat) H1
theorem pi_range2L {a b : Expr} {ta : TA} {p pos : Pos} (hg : Gl X "range") (hm : X.mg "range" = none) (ha : PA X [a, b] ta) (hs : starEach [a, b] X.env = [(false, eval a X.env), (false, eval b X.env)] := by rfl) (hs2 : starEach [b] X.env = [(false, eval b X.env)] := by rfl) :
    PI X tg (.Call (.Name "range" p) [a, b] [] pos) (iRng2L ta) := by
  refine ⟨fun pins s σ H R I h => ?_⟩
  refine Call_ (ld_blt I hg hm boot_range (PyProof.Rows.callWith_type1 (thn (ha.run pos pins s σ H _ I h) fun us s1 ⟨vs, H1, I1, r1, i, j, e, q⟩ => ?_) (by rw [hs, hs2]) (by rw [hs2]; rfl)))
  subst e
  cases r1 with
  | cons r rr =>
    cases rr with
    | cons r' rr =>
      cases rr
      obtain ⟨t, rfl⟩ := r
      obtain ⟨t', rfl⟩ := r'
      exact call_range_2 (range_itL I1 q)
end
theorem lc_rng2L {σ : L2.St} {H : Hp} {ta : TA} {te : TE} {j : Nat} {vs : List Nat} {Q : VK} {n : Nat} {lo hi : Int} (d : Nat → PyData) (ha : ∀ R, R [.int lo, .int hi] H → ta σ H R) (hn : n ≤ 1000000) (hnn : (hi - lo).toNat = n) (hw : ∀ x, wipe ((wipe σ vs).set j (some x)) vs = wipe σ vs)
    (he : ∀ (i : Nat) H1, i < n → Ex H H1 → ∀ R : VK, (∀ v H2, Ex H1 H2 → Rp H2 (New H1) v (d i) → R v H2) → te ((wipe σ vs).set j (some (.int (lo + (i : Int))))) H1 R)
    (k : ∀ v H', Ex H H' → Rp H' (New H) v (.list ((List.range n).map d)) → Q v H') : tLc (iRng2L ta) (gName j) tYes te vs σ H Q := by
  refine ha _ ⟨lo, hi, rfl, fun D hD => ?_⟩
  rw [hnn]
  refine lc_range (lo := lo) (n := n) (LcAt H D d) (.start hD) (fun i H' hi p => ⟨hw _, lc_step p (by omega) fun H1 => he i H1 hi⟩) (fun H' p => ?_)
  obtain ⟨p1, p2, ys, p3, p4⟩ := p
  exact k _ _ p2 (.lst p1 p3 (p4.sub fun b q => q.1))
end Bs

namespace Bs
open PySem PySem.Spec PyProof.Rows L2
open Evl (Ex)
/-! ### a caught exception that is kept: it is tracked -/
def EV (cls : Value) (d : Option Addr) (a : Addr) : HO :=
  .ext fun h => ∃ oe vs, h.get? a = some oe ∧ Zc cls d oe ∧ oe.data = Data.fields vs
theorem ev_ok {P : Program} {w : World} {H : Hp} {h : Heap} {a : Addr} {cls : Value} {d : Option Addr} {oe : Obj} {vs : Array Value}
    (e : h.get? a = some oe) (z : Zc cls d oe) (q : oe.data = Data.fields vs) : ObjOk P w H h a (EV cls d a) :=
  ⟨⟨oe, vs, e, z, q⟩, ⟨oe, e⟩, fun _ _ y k => by
    obtain ⟨o, u, y1, y2⟩ := y
    exact ⟨o, u, k o y1, y2⟩⟩
theorem ev_at {P : Program} {w : World} {H : Hp} {h : Heap} {a : Addr} {cls : Value} {d : Option Addr} (hok : HOk P w H h) (he : H a = some (EV cls d a)) :
    ∃ oe vs, h.get? a = some oe ∧ Zc cls d oe ∧ oe.data = Data.fields vs := by
  have x : ObjOk P w H h a (HO.ext fun h => ∃ oe vs, h.get? a = some oe ∧ Zc cls d oe ∧ oe.data = Data.fields vs) := hok a _ he
  exact x.1
section
variable {X : Cx} {pins : List (Addr × Obj)} {σ : L2.St} {H : Hp} {s : Shared}
/-- what stands already, new to the def, is tracked from now on -/
theorem inv_track {a : Addr} {o : HO} (I : Inv X pins σ H s) (na : H a = none) (n0 : X.s_0.heap.get? a = none) (nL : a ≠ X.env.locals)
    (nC : ∀ x c, X.env.cells.lookup x = some c → c ≠ a) (nP : ∀ p ∈ X.pn ++ pins, p.1 ≠ a) (new : ObjOk X.prog X.w (upd H a o) s.heap a o) : Inv X pins σ (upd H a o) s := by
  have up : ∀ {b : Addr} {u : HO}, H b = some u → upd H a o b = some u := fun {b u} q => by rw [upd_ne (ne_of_none q na), q]
  have un : ∀ {b : Addr}, b ≠ a → H b = none → upd H a o b = none := fun {b} n q => by rw [upd_ne n, q]
  refine ⟨I.ok, I.os, I.bare, ⟨I.base.keep, I.base.slot, ?_, I.base.there, ?_, ?_, ?_⟩, I.loc, I.cell, un (Ne.symm nL) I.free, ?_, ?_, ?_, I.len⟩
  · intro b u e n hx
    exact un (fun z => by rw [z, n0] at e; cases e) (I.base.free b u e n hx)
  · intro b xs e
    exact up (I.base.tups b xs e)
  · intro b u xs e
    exact up (I.base.frzs b u xs e)
  · intro b ps e
    obtain ⟨m, q⟩ := I.base.tbls b ps e
    exact ⟨m, up q⟩
  · intro x c e
    exact un (nC x c e) (I.freeC x c e)
  · intro p hp
    obtain ⟨e, n, r⟩ := I.pin p hp
    exact ⟨e, un (nP p hp) n, r⟩
  · intro b u e
    by_cases hb : b = a
    · subst hb
      rw [upd_same] at e
      cases e
      exact new
    · rw [upd_ne hb] at e
      refine (I.hok b u e).stay (fun _ _ _ q => q) (fun _ q => up q) fun _ _ q => up q
theorem inv_su (I : Inv X pins σ H s) (a : Addr) : Inv (X.suite a (X.pn ++ pins)) [] σ H s := by
  refine ⟨I.ok.suite _ _, I.os, I.bare, I.base, I.loc, I.cell, I.free, I.freeC, ?_, I.hok, I.len⟩
  intro p hp
  rw [List.append_nil] at hp
  exact I.pin p hp
theorem inv_unsu {a : Addr} {pn : List (Addr × Obj)} (I : Inv (X.suite a (X.pn ++ pins)) pn σ H s) (ok : X.Ok) : Inv X pins σ H s := by
  refine ⟨ok, I.os, I.bare, I.base, I.loc, I.cell, I.free, I.freeC, ?_, I.hok, I.len⟩
  intro p hp
  exact I.pin p (List.mem_append_left _ hp)
end
/-- try: body, except c as slot i: suite, what is caught being tracked -/
def wAsV (K : PySem.W.Frag) (c : Value) (i : Nat) (ts : TS) (Wout : WX) (D : Ends) : WX := fun cls d σ H =>
  ∃ b, PySem.W.exmOne K cls c = some b ∧
    (b = true → ∀ a, H a = none → ts ⟨fun σ' => D.nx (σ'.set i none), D.rt, fun σ' => D.bk (σ'.set i none), fun σ' => D.ct (σ'.set i none)⟩ (σ.set i (some (.ref a))) (upd H a (EV cls d a))) ∧
    (b = false → Wout cls d σ H)
def tTryV (K : PySem.W.Frag) (c : Value) (i : Nat) (tb : WX → TS) (ts : TS) (Wout : WX) : TS := fun D => tb (wAsV K c i ts Wout D) D
section
variable {X : Cx} {x n : Str} {c : Value} {i : Nat} {body su : List Stmt} {st : Stmt} {np pos pos' : Pos} {tb : WX → TS} {ts : TS} {Wout : WX}
theorem ps_try_asV (hs : X.stack = X.env :: X.outer) (hf : X.env.frame = some X.env.locals) (hex : X.ex = []) (hN : X.N.Nodup) (hi : X.N[i]? = some n) (hln : X.env.kindOf n = some .local)
    (hc : Names X x c) (tk : Takes X Wout)
    (hb : ∀ W pn xe, Takes (X.tr pn xe) W → PassesOwn (model X.prog X.w) X.A X.env xe → PSs (X.tr pn xe) body (tb W))
    (hsu : ∀ a pn, PSs (X.suite a pn) (st :: su) ts) :
    PS X (.Try body [.ExceptHandler (some (.Name x np)) (some n) (st :: su) pos'] [] [] pos) (tTryV X.K c i tb ts Wout) := by
  constructor
  intro pins s σ H D I h
  have ok := I.ok
  have frm : X.A.frames = some (X.env :: X.outer) := by
    rw [ok.frames, hs]
  apply wpAny_Try_except
  let hh : List ExceptHandler := [.ExceptHandler (some (.Name x np)) (some n) (st :: su) pos']
  let xe1 : Value → Shared → Prop := fun e t0 => wpAny (model X.prog X.w) X.A (noteFrame e X.env)
    (fun _ t1 => wpAny (model X.prog X.w) X.A (setFlight e none)
      (fun _ t2 => wpAny (model X.prog X.w) X.A (handleBy e X.env hh) (SP X pins D) X.xe t2) X.xe t1) X.xe t0
  have takes : Takes (X.tr (X.pn ++ pins) xe1) (wAsV X.K c i ts Wout D) := by
    rintro _ s' ⟨a, B, sI, pins', σ', H', cls, d, rfl, J0, nb, up, sky, na, os, ag, b, hb1, yes, no⟩
    have J : Inv X pins σ' H' sI := J0.ofTry ok
    have sky2 : Sky B (X.env :: X.outer) a (Zc cls d) X.env.locals s'.heap := by
      rw [← hs]
      exact sky
    show wpAny (model X.prog X.w) X.A (noteFrame (.ref a) X.env) _ _ _
    refine Sky.land Zc.steady frm hf sky2 ?_
    intro h3 fl3 up3
    have J3 : Inv X pins σ' H' { s' with heap := h3 } := J.landed nb fl3.1 (up.trans up3) os ag
    obtain ⟨oe3, vs3, g3, z3, d3⟩ := fl3.there
    have noFr : a ∉ frs (X.env :: X.outer) := by
      intro hm
      obtain ⟨_, o', e', hnf⟩ := fl3.2.2.1.mem hm
      rw [g3] at e'
      cases e'
      exact hnf _ d3
    have nL : a ≠ X.env.locals := by
      intro z
      exact noFr (List.mem_filterMap.mpr ⟨X.env, List.mem_cons_self, by rw [hf, z]⟩)
    have nF : a ∉ X.fs := by
      intro hm
      obtain ⟨e, he, q⟩ := List.mem_filterMap.mp hm
      exact noFr (List.mem_filterMap.mpr ⟨e, List.mem_cons_of_mem _ he, q⟩)
    have Ba : B.get? a = none := fl3.2.1
    have noFs : a ∉ frs X.stack := by
      rw [hs]
      exact noFr
    have S3 := J3.suite g3 d3 na nL nF
    refine wpAny_handleBy_cons (codeAny_handlers_test ?_) (by intro q; cases q)
    have LT : PySem.W.Looks (model X.prog X.w) h3 (typeOf (.ref a)) cls := by
      intro A Q E s k q
      exact wpAny_typeOf_ref (k _ _ g3) (by rw [z3.1]; exact q)
    have LM := PySem.W.exm_one (M := model X.prog X.w) (J3.kIn) LT hb1
    have named : ∀ {Q : Value → Shared → Prop} {E : Value → Shared → Prop}, Q c { s' with heap := h3 } →
        wpAny (model X.prog X.w) (X.A.mark (some (.ref a))) (eval (.Name x np) X.env) Q E { s' with heap := h3 } := by
      intro Q E q
      obtain ⟨hg, hdb, hm | ⟨hm, hv, hnn⟩⟩ := hc
      · exact ld_glob (X := X.suite a ((a, oe3) :: (X.pn ++ pins))) S3 hg hm q hdb
      · exact ld_blt (X := X.suite a ((a, oe3) :: (X.pn ++ pins))) S3 hg hm hv q hnn hdb
    apply named
    apply LM.here
    cases b with
    | false =>
      show wpAny _ X.A (handleBy (.ref a) X.env []) _ _ _
      apply wpAny_handleBy_nil
      obtain ⟨_, _, _, oe, vs, T, oT, ts', he, _, hd, h1, _⟩ := id fl3
      have fin : wpAny (model X.prog X.w) X.A (setFlight (.ref a) X.env.frame) (fun _ s4 => wpAny (model X.prog X.w) X.A (throw (.ref a) : Sem Flow) (SP X pins D) X.xe s4) X.xe { s' with heap := h3 } := by
        rw [hf]
        refine HandSPX.setFlight_upZ fl3 fun h4 hh4 up4 => wpAny_throw (tk _ _ ?_)
        refine ⟨a, B, sI, pins, σ', H', cls, d, rfl, J, nb, (up.trans up3).trans up4, ?_, na, os, ag, no rfl⟩
        rw [hs]
        exact .inr (.inr hh4)
      unfold PySem.passOn
      refine wpAny_bind (wpAny_field he hd h1 ?_)
      rw [if_neg (by simp)]
      first
        | exact wpAny_bind (wpAny_pure (wpAny_bind fin))
        | exact wpAny_bind fin
    | true =>
      apply codeAny_handlers_suite_as
      refine HandSPX.lands_againZ fl3 ?_
      intro h4 fl4 up4
      have J4 : Inv X pins σ' H' { s' with heap := h4 } := J.landed nb fl4.1 ((up.trans up3).trans up4) os ag
      obtain ⟨oe4, vs4, g4, z4, d4⟩ := fl4.there
      have n0 : X.s_0.heap.get? a = none := by
        cases e : X.s_0.heap.get? a with
        | none => rfl
        | some o =>
          obtain ⟨o', e'⟩ := J.base.there a o e (by rw [hex]; exact fun z => nomatch z)
          rw [nb a o' e' noFs] at Ba
          cases Ba
      have nC : ∀ x c, X.env.cells.lookup x = some c → c ≠ a := by
        intro y c' e z
        obtain ⟨v, o, ho, hd⟩ := J4.cell y c' e
        rw [z, g4] at ho
        cases ho
        rw [d4] at hd
        cases hd
      have nP : ∀ p ∈ X.pn ++ pins, p.1 ≠ a := by
        intro p hp z
        obtain ⟨e, _, q1, q2, _⟩ := J.pin p hp
        have nf : p.1 ∉ frs X.stack := by
          intro hm
          rw [z] at hm
          exact noFs hm
        have := nb _ _ e nf
        rw [z, Ba] at this
        cases this
      have J5 : Inv X pins σ' (upd H' a (EV cls d a)) { s' with heap := h4 } := inv_track J4 na n0 nL nC nP (ev_ok g4 z4 d4)
      refine store_ok (X := X.suite a (X.pn ++ pins)) (v := .ref a) (inv_su J5 a) hN hi (.inl hln) rfl (fun s5 S5 => ?_) (.inr hln)
      refine wpAny_mono ((hsu a (X.pn ++ pins)).run [] s5 _ _ _ S5 (yes rfl a na)) ?_ (fun _ _ z => False.elim z)
      intro f s6 hsp
      have back : ∀ {σ6 : L2.St} {H6 : Hp} {Q : Shared → Prop}, Inv (X.suite a (X.pn ++ pins)) [] σ6 H6 s6 → (∀ s7, Inv X pins (σ6.set i none) H6 s7 → Q s7) →
          wpAny (model X.prog X.w) X.A (do bindName X.env n .none; unbindBehindTheSuite X.env n pos') (fun _ s7 => Q s7) X.xe s6 := by
        intro σ6 H6 Q S6 hq
        exact gone_ok (inv_unsu S6 ok) hN hi hln hq
      cases f with
      | ret u =>
        obtain ⟨v6, σ6, H6, S6, r6, q6⟩ := hsp
        exact back S6 fun s7 J7 => ⟨_, _, _, J7, r6, q6⟩
      | next => obtain ⟨σ6, H6, S6, q6⟩ := hsp; exact back S6 fun s7 J7 => ⟨_, _, J7, q6⟩
      | brk => obtain ⟨σ6, H6, S6, q6⟩ := hsp; exact back S6 fun s7 J7 => ⟨_, _, J7, q6⟩
      | cont => obtain ⟨σ6, H6, S6, q6⟩ := hsp; exact back S6 fun s7 J7 => ⟨_, _, J7, q6⟩
  have run := (hb (wAsV X.K c i ts Wout D) (X.pn ++ pins) xe1 takes PassesOwn.looking).run [] s σ H D (I.toTry _) h
  refine wpAny_mono run ?_ (fun e s1 he => he)
  intro f s1 hsp
  cases f with
  | ret u =>
    obtain ⟨v, σ', H', J', r, q⟩ := hsp
    exact ⟨v, σ', H', J'.ofTry ok, r, q⟩
  | next =>
    obtain ⟨σ', H', J', q⟩ := hsp
    exact wpAny_execs_nil ⟨σ', H', J'.ofTry ok, q⟩
  | brk => obtain ⟨σ', H', J', q⟩ := hsp; exact ⟨σ', H', J'.ofTry ok, q⟩
  | cont => obtain ⟨σ', H', J', q⟩ := hsp; exact ⟨σ', H', J'.ofTry ok, q⟩
end

/-! ### what is asked of a kept exception -/
theorem ev_inst {P : Program} {w : World} {H : Hp} {h : Heap} {a D : Addr} {d : Option Addr} (hok : HOk P w H h) (he : H a = some (EV (.ref D) d a)) (hd : ∀ dd, d = some dd → ∃ fs, H dd = some (.xd fs)) :
    ∃ oe od, PySem.W.InstAt h a oe D od := by
  obtain ⟨oe, vs, g, z, q⟩ := ev_at hok he
  have no : PySem.W.notCls oe = true := by unfold PySem.W.notCls; rw [q] <;> rfl
  cases d with
  | none => exact ⟨oe, none, g, z.1, no, by rw [z.2]; trivial⟩
  | some dd =>
    obtain ⟨fs, hf⟩ := hd dd rfl
    have hx : ObjOk P w H h dd (.xd fs) := hok dd _ hf
    obtain ⟨mA, hns, hr⟩ := hx
    obtain ⟨od, ho, hl⟩ := lookIn_ns hns
    exact ⟨oe, some od, g, z.1, no, by rw [z.2]; exact ho⟩
def rIsV (K : PySem.W.Frag) : List V → Hp → VK → Prop := fun xs H Q => ∃ (a D : Addr) (d : Option Addr) (c : V) (cv : Value) (b : Bool), xs = [.ref a, c] ∧ H a = some (EV (.ref D) d a) ∧
  (∀ dd, d = some dd → ∃ fs, H dd = some (.xd fs)) ∧ ExcC K D ∧ (∀ u, RelV c u → u = cv) ∧ PySem.W.kitOne K (.ref D) cv = some b ∧ Q (.bl b) H
theorem call_isV {X : Cx} : CallR X (.builtin "isinstance") (rIsV X.K) := by
  intro pins s σ H xs us Q I r h
  obtain ⟨a, D, d, c, cv, b, rfl, ha, hd, C, hcv, e, q⟩ := h
  cases r with
  | cons rx rr =>
  cases rr with
  | cons rt rr =>
  cases rr
  cases rx
  cases hcv _ rt
  obtain ⟨oe, od, J⟩ := ev_inst I.hok ha hd
  obtain ⟨cd, hc, _⟩ := PySem.W.any_some C.hd
  refine PySem.W.kia_one (PySem.W.kitx_exc (by rw [hc]; rfl) C.hg C.hk C.hs C.ha C.hn C.ht C.hm) I.kIn J e (fun z => nomatch z) ?_
  intro tk
  exact ⟨.bl b, H, I.kept (t' := tk) fun _ _ z => z, rfl, q⟩
/-- e.f, e a kept exception -/
def tFldV (K : PySem.W.Frag) (f : Str) (te : TE) : TE := fun σ H Q => te σ H fun x H1 => ∃ (a C dd : Addr) (fs : List (Str × V)) (v : V), x = .ref a ∧ H1 a = some (EV (.ref C) (some dd) a) ∧ H1 dd = some (.xd fs) ∧
  XfC K C ∧ PySem.W.findIn K (.ref C) f = some none ∧ fs.lookup f = some v ∧ Q v H1
theorem pe_fldV {X : Cx} {e : Expr} {te : TE} {pos : Pos} {n : Str} (he : PE X e te) (hb : attributeBase e n X.env (eval e X.env) = eval e X.env := by rfl) : PE X (.Attribute e n pos) (tFldV X.K n te) := by
  constructor
  intro pins s σ H Q I h
  apply attr_of hb
  refine thn (he.run pins s σ H _ I h) ?_
  rintro u s1 ⟨x, H1, I1, rx, a, C, dd, fs, v, rfl, ha, hdd, T, hno, l, q⟩
  obtain rfl : u = Value.ref a := rx
  obtain ⟨oe, vs, g, z, q3⟩ := ev_at I1.hok ha
  have no : PySem.W.notCls oe = true := by unfold PySem.W.notCls; rw [q3] <;> rfl
  have hx : ObjOk X.prog X.w H1 s1.heap dd (.xd fs) := I1.hok dd _ hdd
  obtain ⟨mA, hns, hr⟩ := hx
  obtain ⟨od, ho, hl⟩ := lookIn_ns hns
  have rn := hr n
  rw [l] at rn
  obtain ⟨u, hu, ru⟩ := RelO.some_of rn
  have J : PySem.W.InstAt s1.heap a oe C (some od) := ⟨g, z.1, no, by rw [z.2]; exact ho⟩
  exact HandSPX.exc_get I1.kIn J T.ga T.gg T.exC (PySem.W.findObj_own T.hdC hno rfl (by rw [hl, hu])) (handed_of ru) ⟨v, H1, I1.tok _, ru, q⟩
/-! ### the head's facts, with own ones -/
def kX (n : Nat) (g : Addr → Option Obj) : PySem.W.Frag := He.frG g (sysModules :: He.asD g n)
def sysB (K : PySem.W.Frag) : Bool := (K.lookup sysModules).isSome
def obX (n : Nat) (cs : List (PySem.W.Frag → Bool)) (fa : List He.Fa) (fn : List He.DefD) (g : Addr → Option Obj) : Bool × He.AlD := (cs.all fun c => c (kX n g), He.obsD fa fn (kX n g))
def hookX (n : Nat) (cs : List (PySem.W.Frag → Bool)) (fa : List He.Fa) (fn : List He.DefD) : PySem.W.Hook where
  α := Bool × He.AlD
  obs := fun s => obX n cs fa fn s.heap.get?
  val := fun _ => (true, He.valD fn)
  says := fun _ h => ∃ K : PySem.W.Frag, K.In h ∧ (cs.all fun c => c K) = true ∧ He.SaysD fa fn K
  of := fun _ _ e => ⟨_, He.frG_in, congrArg (fun z : Bool × He.AlD => z.1) e, congrArg (fun z : Bool × He.AlD => z.2) e⟩
  keeps := fun _ _ _ h k => by
    obtain ⟨K, hK, c⟩ := h
    exact ⟨K, PySem.W.Frag.In.keeps hK k, c⟩
theorem obX_eq {n : Nat} {cs : List (PySem.W.Frag → Bool)} {fa : List He.Fa} {fn : List He.DefD} {g : Addr → Option Obj} {s : Shared} (h : ∀ a, g a = s.heap.get? a) : obX n cs fa fn g = (hookX n cs fa fn).obs s := by
  have e : g = s.heap.get? := funext h
  rw [e] <;> rfl
/-! ### calls whose exceptions are caught or let out -/
theorem passE {P : Program} {w : World} {K : PySem.W.Frag} {mg : Str → Option Value} {base : Heap} {N : List Str} {q : Str} {sc : Scope} {f : Addr} {cd : Value} {A : Around} {o : List Env} {s : Shared} {H : Hp} {E : XK} :
    Passes (L2.CX P w) (cxOf (L2.CX P w) P w K mg base N q sc f cd A o s H E) E := passes_call (W := fun cls d _ H => E cls d H) (takes_of rfl rfl rfl rfl) fun _ _ _ _ h => h
section
variable {X : Cx} {C : CXT} {k : Nat} {f : Addr} {fd : FuncData} {ps : List Str} {sp : Sp} {E : L2.St → XK} {x : Str} {p pos : Pos} {e : Expr} {es : List Expr} {t : TA}
theorem run_gS {pins : List (Addr × Obj)} {σ : L2.St} {H : Hp} {s : Shared} {Q : VK} {us : List Value} {vs : List V}
    (F : GOk X.prog X.w X.K X.mg X.base C k f fd ps sp) (hr : Room k X.A) (hc : Clean X.A) (hb : Binds X.K fd ps []) (hx : PassesAt C X σ (E σ))
    (I : Inv X pins σ H s) (r : Vals vs us) (h : sp vs H Q (E σ)) : wpAny (model X.prog X.w) X.A (call (.ref f) us) (EP X pins σ Q) X.xe s := by
  have len : us.length = ps.length := r.length ▸ F.arity _ _ _ _ h
  have b := hb s us I.kIn (by rw [List.append_nil]; exact len)
  rw [List.append_nil] at b
  refine wpAny_call (codeAny_mono (F.go X.A X.stack s H ⟨us, []⟩ us vs Q (E σ) hr hc I.env0 b r h) ?_)
  rintro (er | fl) s' z
  · exact hx pins H s er s' I z
  · cases fl with
    | ret u => exact I.after z
    | _ => exact z.elim
theorem pe_callGS (F : GOk X.prog X.w X.K X.mg X.base C k f fd ps sp) (hr : Room k X.A) (hc : Clean X.A) (hg : Gl X x) (hm : X.mg x = some (.ref f))
    (hk : PySem.W.keepIn X.K (.ref f) = true) (hb : Binds X.K fd ps []) (hx : ∀ σ, PassesAt C X σ (E σ)) (ha : PA X (e :: es) t)
    (hdb : (x == ("__debug__" : Str)) = false := by decide)
    (he : starEach (e :: es) X.env = (false, eval e X.env) :: starEach es X.env := by rfl)
    (hpl : (backTo pos (starEach es X.env)).any (·.1) = false := by rfl) :
    PE X (.Call (.Name x p) (e :: es) [] pos) (tCallS sp E t) := by
  constructor
  intro pins s σ H Q I h
  refine wpAny_Call_Name_kw (ld_glob I hg hm ?_ hdb)
  refine PySem.W.callWith_K (h₀ := X.base) I.ok.mod.kin hk (thn (ha.run pos pins s σ H _ I h) ?_) he hpl
  rintro us s1 ⟨vs, H1, I1, r, q⟩
  exact ⟨I1.kIn, run_gS F hr hc hb (hx σ) I1 r q⟩
end
/-! ### the classes of errors -/
def errN : Nat → Str
  | 0 => "InvalidOperations" | 1 => "InvalidCuts" | 2 => "InvalidText" | 3 => "CannotDo" | 4 => "TooLarge" | 5 => "TooDeep" | 6 => "OverBudget" | 7 => "InvalidLength" | 8 => "InvalidSlots"
  | 9 => "InvalidRounds" | 10 => "InvalidState" | 11 => "InvalidStep" | 12 => "InvalidNumber" | 13 => "InvalidBudget" | 14 => "InvalidCall" | 15 => "Nothing" | 16 => "InvalidCommand" | _ => "SlotError"
abbrev eC (K : PySem.W.Frag) (i : Nat) : Addr := He.ga K (errN i)
def excCB (K : PySem.W.Frag) (D : Addr) : Bool :=
  decide (PySem.W.findIn K (.ref D) "__getattribute__" = some (some (.builtin "BaseException.__getattribute__"))) && (decide (PySem.W.findIn K (.ref D) "__getattr__" = some none) &&
  (decide (PySem.W.subIn K (.ref D) (.type "BaseException") = some true) && (PySem.W.hasDictIn K D && (decide (PySem.W.findIn K (.ref D) "__class__" = some (some (.builtin "object.__class__"))) &&
  (decide (PySem.W.specialIn K (.builtin "object.__class__") "__get__" = some (some (.builtin "getset_descriptor.__get__"))) && (decide (PySem.W.takesIn K (.builtin "object.__class__") = some true) &&
  decide (PySem.W.mroIn K D (.type "object") = some true)))))))
theorem excCB_ok {K : PySem.W.Frag} {D : Addr} (h : excCB K D = true) : ExcC K D := by
  simp only [excCB, Bool.and_eq_true, decide_eq_true_eq] at h
  obtain ⟨h1, h2, h3, h4, h5, h6, h7, h8⟩ := h
  exact ⟨h1, h2, h3, h4, h5, h6, h7, h8⟩
/-- of one class of errors -/
def errB (K : PySem.W.Frag) (i : Nat) : Bool :=
  decide (PySem.W.nsIn K mainGlobals (errN i) = some (some (.ref (eC K i)))) && PySem.W.keepIn K (.ref (eC K i)) && decide (PySem.W.typeIn K (.ref (eC K i)) = some (.type "type")) && excCB K (eC K i) &&
  decide (PySem.W.kitOne K (.ref (eC K i)) (.type "ValueError") = some true) && decide (PySem.W.exmOne K (.ref (eC K i)) (.ref (eC K 17)) = some true) && decide (PySem.W.kitOne K (.ref (eC K i)) (.ref (eC K 17)) = some true) &&
  decide (i < 7 ∨ PySem.W.excIn K (eC K i) He.veBase "ValueError.__new__" = true)
def errsB (K : PySem.W.Frag) : Bool := (List.range 18).all (errB K) && (List.range 18).all fun i => (List.range 17).all fun j => decide (PySem.W.kitOne K (.ref (eC K i)) (.ref (eC K j)) = some (i == j))
structure Errs (K : PySem.W.Frag) (mg : Str → Option Value) : Prop where
  gl : ∀ i, i < 18 → mg (errN i) = some (.ref (eC K i))
  kp : ∀ i, i < 18 → PySem.W.keepIn K (.ref (eC K i)) = true
  ty : ∀ i, i < 18 → PySem.W.typeIn K (.ref (eC K i)) = some (.type "type")
  xc : ∀ i, i < 18 → ExcC K (eC K i)
  kitV : ∀ i, i < 18 → PySem.W.kitOne K (.ref (eC K i)) (.type "ValueError") = some true
  exm : ∀ i, i < 18 → PySem.W.exmOne K (.ref (eC K i)) (.ref (eC K 17)) = some true
  kitS : ∀ i, i < 18 → PySem.W.kitOne K (.ref (eC K i)) (.ref (eC K 17)) = some true
  tx : ∀ i, i < 18 → 7 ≤ i → PySem.W.excIn K (eC K i) He.veBase "ValueError.__new__" = true
  kit : ∀ i j, i < 18 → j < 17 → PySem.W.kitOne K (.ref (eC K i)) (.ref (eC K j)) = some (i == j)
theorem errs_ok {K : PySem.W.Frag} {h : Heap} {mg : Str → Option Value} (X : K.In h) (G : h.Ns mainGlobals mg) (c : errsB K = true) : Errs K mg := by
  obtain ⟨c1, c2⟩ := Bool.and_eq_true_iff.mp c
  have one : ∀ i, i < 18 → errB K i = true := fun i hi => List.all_eq_true.mp c1 i (List.mem_range.mpr hi)
  have two : ∀ i j, i < 18 → j < 17 → PySem.W.kitOne K (.ref (eC K i)) (.ref (eC K j)) = some (i == j) := fun i j hi hj =>
    of_decide_eq_true (List.all_eq_true.mp (List.all_eq_true.mp c2 i (List.mem_range.mpr hi)) j (List.mem_range.mpr hj))
  have all : ∀ i, i < 18 → PySem.W.nsIn K mainGlobals (errN i) = some (some (.ref (eC K i))) ∧ PySem.W.keepIn K (.ref (eC K i)) = true ∧ PySem.W.typeIn K (.ref (eC K i)) = some (.type "type") ∧ excCB K (eC K i) = true ∧
      PySem.W.kitOne K (.ref (eC K i)) (.type "ValueError") = some true ∧ PySem.W.exmOne K (.ref (eC K i)) (.ref (eC K 17)) = some true ∧ PySem.W.kitOne K (.ref (eC K i)) (.ref (eC K 17)) = some true ∧
      (i < 7 ∨ PySem.W.excIn K (eC K i) He.veBase "ValueError.__new__" = true) := fun i hi => by
    have := one i hi
    simpa only [errB, Bool.and_eq_true, decide_eq_true_eq, and_assoc] using this
  exact ⟨fun i hi => PySem.W.mg_of X G (all i hi).1, fun i hi => (all i hi).2.1, fun i hi => (all i hi).2.2.1, fun i hi => excCB_ok (all i hi).2.2.2.1, fun i hi => (all i hi).2.2.2.2.1, fun i hi => (all i hi).2.2.2.2.2.1,
    fun i hi => (all i hi).2.2.2.2.2.2.1, fun i hi h7 => (all i hi).2.2.2.2.2.2.2.resolve_left (by omega), two⟩
/-- for laws that hold some of the classes alone -/
structure ErrI (K : PySem.W.Frag) (mg : Str → Option Value) (I : List Nat) : Prop where
  gl : ∀ i, i ∈ I → mg (errN i) = some (.ref (eC K i))
  kp : ∀ i, i ∈ I → PySem.W.keepIn K (.ref (eC K i)) = true
  ty : ∀ i, i ∈ I → PySem.W.typeIn K (.ref (eC K i)) = some (.type "type")
  xc : ∀ i, i ∈ I → ExcC K (eC K i)
  exm : ∀ i j, i ∈ I → j ∈ I → PySem.W.exmOne K (.ref (eC K i)) (.ref (eC K j)) = some (i == j || j == 17)
  tx : ∀ i, i ∈ I → 7 ≤ i → PySem.W.excIn K (eC K i) He.veBase "ValueError.__new__" = true
def errIB (I : List Nat) (K : PySem.W.Frag) : Bool := I.all (errB K) && I.all fun i => I.all fun j => decide (PySem.W.exmOne K (.ref (eC K i)) (.ref (eC K j)) = some (i == j || j == 17))
theorem errI_ok {K : PySem.W.Frag} {h : Heap} {mg : Str → Option Value} {I : List Nat} (X : K.In h) (G : h.Ns mainGlobals mg) (c : errIB I K = true) : ErrI K mg I := by
  obtain ⟨c1, c2⟩ := Bool.and_eq_true_iff.mp c
  have all : ∀ i, i ∈ I → PySem.W.nsIn K mainGlobals (errN i) = some (some (.ref (eC K i))) ∧ PySem.W.keepIn K (.ref (eC K i)) = true ∧ PySem.W.typeIn K (.ref (eC K i)) = some (.type "type") ∧ excCB K (eC K i) = true ∧
      PySem.W.kitOne K (.ref (eC K i)) (.type "ValueError") = some true ∧ PySem.W.exmOne K (.ref (eC K i)) (.ref (eC K 17)) = some true ∧ PySem.W.kitOne K (.ref (eC K i)) (.ref (eC K 17)) = some true ∧
      (i < 7 ∨ PySem.W.excIn K (eC K i) He.veBase "ValueError.__new__" = true) := fun i hi => by
    have := List.all_eq_true.mp c1 i hi
    simpa only [errB, Bool.and_eq_true, decide_eq_true_eq, and_assoc] using this
  exact ⟨fun i hi => PySem.W.mg_of X G (all i hi).1, fun i hi => (all i hi).2.1, fun i hi => (all i hi).2.2.1, fun i hi => excCB_ok (all i hi).2.2.2.1,
    fun i j hi hj => of_decide_eq_true (List.all_eq_true.mp (List.all_eq_true.mp c2 i hi) j hj), fun i hi h7 => (all i hi).2.2.2.2.2.2.2.resolve_left (by omega)⟩
theorem isV {K : PySem.W.Frag} {mg : Str → Option Value} (er : Errs K mg) {H : Hp} {a : Addr} {d : Option Addr} {i : Nat} (j : Nat) {Q : VK} (ha : H a = some (EV (.ref (eC K i)) d a)) (hd : ∀ dd, d = some dd → ∃ fs, H dd = some (.xd fs))
    (hi : i < 18) (hj : j < 17) (q : Q (.bl (i == j)) H) : rIsV K [.ref a, .ref (eC K j)] H Q :=
  ⟨a, _, d, _, _, _, rfl, ha, hd, er.xc i hi, fun u r => r, er.kit i j hi hj, q⟩
theorem isVE {K : PySem.W.Frag} {mg : Str → Option Value} (er : Errs K mg) {H : Hp} {a : Addr} {d : Option Addr} {i : Nat} {Q : VK} (ha : H a = some (EV (.ref (eC K i)) d a)) (hd : ∀ dd, d = some dd → ∃ fs, H dd = some (.xd fs))
    (hi : i < 18) (q : Q (.bl true) H) : rIsV K [.ref a, .ty "ValueError"] H Q :=
  ⟨a, _, d, _, _, _, rfl, ha, hd, er.xc i hi, fun u r => r, er.kitV i hi, q⟩
/-! ### data with empty dicts -/
def flat : PyData → Bool
  | .list _ => false
  | .tuple _ => false
  | .dict _ => false
  | _ => true
mutual
inductive Df (K : PySem.W.Frag) (H : Hp) : V → PyData → Prop where
  | dp {v : V} {d : PyData} : flat d = true → Dp K H v d → Df K H v d
  | lst {a : Addr} {xs : List V} {ds : List PyData} : H a = some (.lst xs) → DfAll K H xs ds → Df K H (.ref a) (.list ds)
  | tup {a : Addr} {xs : List V} {ds : List PyData} : H a = some (.tup xs) → DfAll K H xs ds → Df K H (.ref a) (.tuple ds)
  | dct {a : Addr} : H a = some (.dK []) → Df K H (.ref a) (.dict [])
inductive DfAll (K : PySem.W.Frag) (H : Hp) : List V → List PyData → Prop where
  | nil : DfAll K H [] []
  | cons {v : V} {vs : List V} {d : PyData} {ds : List PyData} : Df K H v d → DfAll K H vs ds → DfAll K H (v :: vs) (d :: ds)
end

section
variable {K : PySem.W.Frag} {H H' : Hp}
theorem df_ex (e : Ex H H') : ∀ (d : PyData) (v : V), Df K H v d → Df K H' v d
  | .list ds, _, h => by
    cases h with
    | dp f h => cases f
    | lst h a => exact .lst (e _ _ h) (go ds _ a)
  | .tuple ds, _, h => by
    cases h with
    | dp f h => cases f
    | tup h a => exact .tup (e _ _ h) (go ds _ a)
  | .dict kvs, _, h => by
    cases h with
    | dp f h => cases f
    | dct h => exact .dct (e _ _ h)
  | .none, _, h => by cases h with | dp f h => exact .dp f (dp_ex e _ _ h)
  | .bool _, _, h => by cases h with | dp f h => exact .dp f (dp_ex e _ _ h)
  | .int _, _, h => by cases h with | dp f h => exact .dp f (dp_ex e _ _ h)
  | .str _, _, h => by cases h with | dp f h => exact .dp f (dp_ex e _ _ h)
where go : ∀ (ds : List PyData) (vs : List V), DfAll K H vs ds → DfAll K H' vs ds
  | [], _, h => by cases h; exact .nil
  | d :: ds, _, h => by cases h with | cons h r => exact .cons (df_ex e d _ h) (go ds _ r)
end
section
variable {X : Cx} {pins : List (Addr × Obj)} {σ : L2.St} {H : Hp} {s : Shared}
theorem tr_ne {a : Addr} {o : HO} (I : Inv X pins σ H s) (sy : (X.K.lookup sysModules).isSome = true) (e : H a = some o) : sysModules ≠ a := fun z => by
  obtain ⟨o', ho⟩ := Option.isSome_iff_exists.mp sy
  have := (I.bs _ _ (I.ok.mod.kin _ _ ho)).2
  rw [z, e] at this
  cases this
theorem df_reads (I : Inv X pins σ H s) (sy : (X.K.lookup sysModules).isSome = true) : ∀ (d : PyData) (v : V) (u : Value), Df X.K H v d → RelV v u → ∃ as, Reads s.heap u d as ∧ sysModules ∉ as
  | .list ds, _, _, h, r => by
    cases h with
    | dp f h => cases f
    | lst h a =>
      cases r
      obtain ⟨_, its, n, rv, h1⟩ := (show ObjOk X.prog X.w H s.heap _ (.lst _) from I.hok _ _ h)
      obtain ⟨as, ra, na⟩ := go ds _ its a rv
      exact ⟨_, Reads.list h1 rfl rfl (by simpa using ra), fun z => (List.mem_cons.mp z).elim (tr_ne I sy h) na⟩
  | .tuple ds, _, _, h, r => by
    cases h with
    | dp f h => cases f
    | tup h a =>
      cases r
      obtain ⟨_, its, rv, o, h1, h2, n, h3⟩ := (show ObjOk X.prog X.w H s.heap _ (.tup _) from I.hok _ _ h)
      obtain ⟨as, ra, na⟩ := go ds _ its a rv
      exact ⟨_, Reads.tuple h1 h2 h3 (by simpa using ra), na⟩
  | .dict kvs, _, _, h, r => by
    cases h with
    | dp f h => cases f
    | dct h =>
      cases r
      obtain ⟨_, _, vs, kv, o, es, ep, h1, h2, h3, _, pr, _⟩ := (show ObjOk X.prog X.w H s.heap _ (.dK []) from I.hok _ _ h)
      cases kv
      have e0 : es.toList = [] := by
        cases hh : es.toList with
        | nil => rfl
        | cons x y => rw [hh] at pr; cases pr
      exact ⟨_, Reads.dict (as := []) (bs := []) h1 h2.1 h3 (by rw [e0]; exact .nil) (by rw [e0]; exact .nil), fun z => (List.mem_cons.mp z).elim (tr_ne I sy h) (fun z => nomatch z)⟩
  | .none, _, _, h, r => by cases h with | dp f h => cases h; cases r; exact ⟨_, Reads.none, fun z => nomatch z⟩
  | .bool b, _, _, h, r => by cases h with | dp f h => cases h; cases r; exact ⟨_, Reads.bool b, fun z => nomatch z⟩
  | .int i, _, _, h, r => by cases h with | dp f h => cases h; obtain ⟨t, rfl⟩ := r; exact ⟨_, Reads.int i t, fun z => nomatch z⟩
  | .str x, _, _, h, r => by cases h with | dp f h => cases h; obtain ⟨t, rfl⟩ := r; exact ⟨_, Reads.str x t, fun z => nomatch z⟩
where go : ∀ (ds : List PyData) (vs : List V) (us : List Value), DfAll X.K H vs ds → Vals vs us → ∃ as, ReadsAll s.heap us ds as ∧ sysModules ∉ as
  | [], _, _, h, r => by cases h; cases r; exact ⟨_, .nil, fun z => nomatch z⟩
  | d :: ds, _, _, h, r => by
    cases h with
    | cons h1 h2 =>
    cases r with
    | cons r1 r2 =>
    obtain ⟨as, q1, n1⟩ := df_reads I sy d _ _ h1 r1
    obtain ⟨bs, q2, n2⟩ := go ds _ _ h2 r2
    exact ⟨_, .cons q1 q2, fun z => (List.mem_append.mp z).elim n1 n2⟩
end
/-- a text of at most m signs, at most k deep -/
def Good (k m : Nat) (d : PyData) : Prop := d.showable = true ∧ d.depth ≤ k ∧ d.shown.length ≤ m
theorem good_fine {n : Nat} {d : PyData} (h : fine n d = true) : Good n (sz d) d := by
  obtain ⟨h1, _, h3, h4⟩ := fine_ok d n h
  exact ⟨h1, h3, h4⟩
theorem good_dict {k : Nat} : Good (k + 1) 2 (.dict []) := ⟨by decide +kernel, Nat.le_trans (by decide +kernel : (PyData.dict []).depth ≤ 1) (by omega), by decide +kernel⟩
/-- repr of a new list -/
def rReprF (K : PySem.W.Frag) : List V → Hp → VK → Prop := fun xs H Q => ∃ a ds, xs = [.ref a] ∧ Df K H (.ref a) (.list ds) ∧ Good 20 16000000 (.list ds) ∧ Q (.str (PyData.shown (.list ds))) H
theorem call_repr_F {X : Cx} {k : Nat} (hr : Room k X.A) (hc : Clean X.A) (sy : (X.K.lookup sysModules).isSome = true) : CallR X (.builtin "repr") (rReprF X.K) := by
  intro pins s σ H xs us Q I r h
  obtain ⟨a, ds, rfl, hd, ⟨g1, g2, g3⟩, q⟩ := h
  cases r with
  | cons r0 r1 =>
  cases r1
  obtain ⟨as, rd, na⟩ := df_reads I sy _ _ _ hd r0
  cases r0
  have hu := hr.units
  exact repr_of_reads' rd g1 (fun _ => na) hc (by omega) (fun _ _ z => z) (fun h' u tk kk => ⟨.str _, H, I.kept kk, ⟨_, rfl⟩, q⟩) (by rw [sizeLine_eq]; omega)
theorem good_list {k m : Nat} {ds : List PyData} (h : ∀ d ∈ ds, Good k m d) : Good (k + 1) ((m + 2) * ds.length + 3) (.list ds) := by
  have one : ∀ ds : List PyData, (∀ d ∈ ds, Good k m d) → PyData.showableAll ds = true ∧ PyData.depthAll ds ≤ k ∧ ((PyData.shownAll ds).map (·.length)).sum + 2 * (PyData.shownAll ds).length ≤ (m + 2) * ds.length := by
    intro ds
    induction ds with
    | nil => intro _; exact ⟨rfl, by show 0 ≤ k; omega, by simp [PyData.shownAll]⟩
    | cons d ds ih =>
      intro h
      obtain ⟨a1, a2, a3⟩ := h d (List.mem_cons_self ..)
      obtain ⟨b1, b2, b3⟩ := ih fun d hd => h d (List.mem_cons_of_mem _ hd)
      refine ⟨by simp only [PyData.showableAll, a1, b1, Bool.and_self], by simp only [PyData.depthAll]; omega, ?_⟩
      simp only [PyData.shownAll, List.map_cons, List.sum_cons, List.length_cons]
      rw [show (m + 2) * (ds.length + 1) = (m + 2) * ds.length + (m + 2) by rw [Nat.mul_add, Nat.mul_one]]
      omega
  obtain ⟨c1, c2, c3⟩ := one ds h
  refine ⟨by simpa only [PyData.showable] using c1, by simp only [PyData.depth]; omega, ?_⟩
  have := listText_len_le (PyData.shownAll ds)
  simp only [PyData.shown]
  omega
/-! ### classes of errors with an argument -/
def oexB (K : PySem.W.Frag) (C : Addr) : Bool := match K.lookup C with
  | some ⟨.type "type", _, .cls cd, sl⟩ => (match cd.mro, sl.toList with
    | .ref C' :: bm, [_, _, _, _, some (.builtin n), _] => C' == C && n == "ValueError.__new__" && !cd.hasDel && cd.hasDict && PySem.HandSPX.refsVE bm
    | _, _ => false)
  | _ => false
theorem oexB_ok {K : PySem.W.Frag} {C : Addr} (q : oexB K C = true) : ∃ nm q N bs bm sn sub ab col dd k0 k1 k2 k3 k5, K.lookup C = some (excClassObj nm q C N bs bm true sn sub ab col dd k0 k1 k2 k3 k5 "ValueError.__new__") ∧ PySem.HandSPX.refsVE bm = true := by
  unfold oexB at q
  split at q
  · rename_i dd cd sl ho
    split at q
    · rename_i C' bm k0 k1 k2 k3 n k5 hm hs
      simp only [Bool.and_eq_true, beq_iff_eq, Bool.not_eq_true'] at q
      obtain ⟨⟨⟨⟨rfl, rfl⟩, hdel⟩, hdc⟩, hr⟩ := q
      obtain ⟨nm, bs, mro, ns, qn, hd, sn, sub, ab, col, del⟩ := cd
      dsimp only at hm hdel hdc
      subst hm hdel hdc
      have hsl : sl = #[k0, k1, k2, k3, some (.builtin "ValueError.__new__"), k5] := by
        obtain ⟨l⟩ := sl
        simp only at hs
        rw [hs]
      subst hsl
      exact ⟨nm, qn, ns, bs, bm, sn, sub, ab, col, dd, k0, k1, k2, k3, k5, ho, hr⟩
    · cases q
  · cases q
/-- of a class whose __init__, at fI, keeps its argument in the field f -/
structure InitF (K : PySem.W.Frag) (C fI : Addr) (f : Str) : Prop where
  ox : OexC K C
  no : PySem.W.findIn K (.ref C) f = some none
  ini : PySem.W.findIn K (.ref C) "__init__" = some (some (.ref fI))
  ty : PySem.W.typeIn K (.ref fI) = some (.type "function")
def initB (K : PySem.W.Frag) (i : Nat) (f : Str) : Bool :=
  oexB K (eC K i) && decide (PySem.W.findIn K (.ref (eC K i)) "__setattr__" = some (some (.builtin "object.__setattr__"))) && decide (PySem.W.subIn K (.ref (eC K i)) (.type "BaseException") = some true) &&
  decide (PySem.W.typeIn K (.ref (eC K i)) = some (.type "type")) && PySem.W.keepIn K (.ref (eC K i)) && decide (PySem.W.findIn K (.ref (eC K i)) f = some none) &&
  decide (PySem.W.findIn K (.ref (eC K i)) "__init__" = some (some (.ref (He.ma K (eC K i) "__init__")))) && decide (PySem.W.typeIn K (.ref (He.ma K (eC K i) "__init__")) = some (.type "function"))
theorem initB_ok {K : PySem.W.Frag} {i : Nat} {f : Str} (h : initB K i f = true) : InitF K (eC K i) (He.ma K (eC K i) "__init__") f := by
  simp only [initB, Bool.and_eq_true, decide_eq_true_eq, and_assoc] at h
  obtain ⟨h1, h2, h3, h4, h5, h6, h7, h8⟩ := h
  exact ⟨⟨oexB_ok h1, h2, h3, h4, h5⟩, h6, h7, h8⟩
/-- what such an __init__ promises -/
def spIn (K : PySem.W.Frag) (f : Str) : Sp := fun vs H Q _ => ∃ (a C : Addr) (v : V), vs = [.ref a, v] ∧ OexC K C ∧ PySem.W.findIn K (.ref C) f = some none ∧ H a = some (exo a C none) ∧
  ∀ dx, H dx = none → dx ≠ a → Q .non (upd (upd H dx (exd dx [(f, v)])) a (exo a C (some dx)))
theorem spIn_len {K : PySem.W.Frag} {f : Str} {n : List Str} (hn : n.length = 2) : ∀ vs H Q E, spIn K f vs H Q E → vs.length = n.length := by
  rintro vs H Q E ⟨a, C, v, rfl, _⟩
  exact hn.symm
/-- C(e), the field f holding e -/
def tMkI (C : Addr) (f : Str) (ta : TA) : L2.St → Hp → XK → Prop := fun σ H Q => ta σ H fun vs H1 => ∃ v, vs = [v] ∧ ∀ d, H1 d = none → Q (.ref C) (some d) (upd H1 d (.xd [(f, v)]))
section
variable {X : Cx} {C fI : Addr} {f x : Str} {k : Nat} {fd : FuncData} {n : List Str} {e : Expr} {ta : TA} {p pos : Pos}
theorem pmk_init {ps : List Str} (T : InitF X.K C fI f) (F1 : FnOk X.prog X.w X.K X.mg X.base (L2.CX X.prog X.w) k fI fd ps (spIn X.K f)) (hr : Room (k + 1) X.A) (hb : Binds X.K fd ps []) (hg : Gl X x) (hm : X.mg x = some (.ref C)) (ha : PA X [e] ta)
    (hdb : (x == ("__debug__" : Str)) = false := by decide) (he : starEach [e] X.env = (false, eval e X.env) :: starEach [] X.env := by rfl) :
    PMk X (.Call (.Name x p) [e] [] pos) (tMkI C f ta) := by
  intro pins s σ H Q I h
  have ha2 : PA X [e] (fun σ H R => ∃ R', ta σ H R' ∧ ∀ vs H1, R' vs H1 → R vs H1) := by
    constructor
    rintro pos pins s σ H R I ⟨R', h, i⟩
    refine wpAny_mono (ha.run pos pins s σ H R' I h) ?_ (fun _ _ x => x)
    rintro us s1 ⟨vs, H1, I1, r, q⟩
    exact ⟨vs, H1, I1, r, i _ _ q⟩
  have gen := pmk_oex (p := p) (pos := pos) (CX := L2.CX X.prog X.w) T.ox T.ini T.ty F1 hr hb .nil (passL (X := X)) hg hm ha2 hdb he (by rfl)
  refine gen pins s σ H Q I ⟨_, h, ?_⟩
  rintro vs H1 ⟨v, rfl, q⟩
  refine ⟨by show 1 ≤ 1000; decide, fun a na => ⟨a, C, v, rfl, T.ox, T.no, upd_same, fun dx hdx hne => ⟨rfl, dx, [(f, v)], upd_same, by rw [upd_ne hne, upd_same], ?_, ?_⟩⟩⟩
  · rw [upd_ne hne] at hdx
    exact hdx
  · rw [upd_ne hne] at hdx
    have e2 : upd (del (upd (upd (upd H1 a (exo a C none)) dx (exd dx [(f, v)])) a (exo a C (some dx))) a) dx (HO.xd [(f, v)]) = upd H1 dx (.xd [(f, v)]) := by
      funext b
      by_cases h1 : b = dx
      · rw [h1, upd_same, upd_same]
      · rw [upd_ne h1, upd_ne h1]
        by_cases h2 : b = a
        · rw [h2, del_same, na]
        · rw [del_ne h2, upd_ne h2, upd_ne h1, upd_ne h2]
    rw [e2]
    exact q dx hdx
/-- an error that is made and kept -/
def tMkV (tm : L2.St → Hp → XK → Prop) : TE := fun σ H Q => tm σ H fun cls d H1 => ∀ a, H1 a = none → Q (.ref a) (upd H1 a (EV cls d a))
theorem pe_mkV {e : Expr} {tm : L2.St → Hp → XK → Prop} (he : PMk X e tm) : PE X e (tMkV tm) := by
  constructor
  intro pins s σ H Q I h
  refine thn (he pins s σ H _ I h) ?_
  rintro u s1 ⟨a, oe, vs, sI, H1, cls, d, rfl, J, k, hne, ha, hz, hd, _, na, os, ag, _, q⟩
  refine ⟨.ref a, upd H1 a (EV cls d a), ?_, rfl, q a na⟩
  obtain ⟨hp, g, dr, tk, os'⟩ := s1
  obtain ⟨hp0, g0, dr0, tk0, os0⟩ := sI
  exact J.call' (ch := []) os (Un.laidN k hne na) (J.hok.laidN k na (ev_ok ha hz hd)) ag (fun b z => absurd z (by simp))
end

/-- list + list, each tracked or written -/
def rCatQ (K : PySem.W.Frag) : R2 := fun x y H Q => ∃ l b xs zs, x = .ref l ∧ y = .ref b ∧ SqL K H l xs ∧ SqL K H b zs ∧ xs.length + zs.length ≤ sizeLine ∧ ∀ p, H p = none → Q (.ref p) (upd H p (.lst (xs ++ zs)))
theorem op_catQ {X : Cx} : OpR X (binaryOp .Add) (rCatQ X.K) := by
  intro pins s σ H x y v u Q I rx ry h
  obtain ⟨l, b, xs, zs, rfl, rfl, hH, hB, hz, q⟩ := h
  cases rx
  cases ry
  obtain ⟨its, r, ⟨⟨cls, dd, data, sl⟩, n, ho, hc, _, hd⟩, z⟩ := I.list hH
  obtain ⟨its2, r2, ⟨⟨cls2, dd2, data2, sl2⟩, n2, ho2, hc2, _, hd2⟩, z2⟩ := I.list hB
  simp only at hc hd hc2 hd2
  subst hc hd hc2 hd2
  have l1 := r.length
  have l2 := r2.length
  have ea : its.toArray ++ its2.toArray = (its ++ its2).toArray := by simp
  refine concat_meets ⟨_, ho, rfl⟩ ⟨_, ho2, rfl⟩ noFill_list_add seq_list_add PySem.F.slot_list_add PySem.F.entry_list_add (PySem.F.args_list_add_2 _ _) (list_addW l b its.toArray its2.toArray n n2 dd dd2 sl sl2 (by rw [List.size_toArray, List.size_toArray]; omega)) ⟨ho, ho2, ?_⟩
  rw [ea]
  exact ⟨.ref _, _, I.lnew (t' := s.toks) (r.append r2) (by rw [List.length_append]; omega), rfl, q _ I.fresh⟩
theorem isVS {K : PySem.W.Frag} {mg : Str → Option Value} (er : Errs K mg) {H : Hp} {a : Addr} {d : Option Addr} {i : Nat} {Q : VK} (ha : H a = some (EV (.ref (eC K i)) d a)) (hd : ∀ dd, d = some dd → ∃ fs, H dd = some (.xd fs))
    (hi : i < 18) (q : Q (.bl true) H) : rIsV K [.ref a, .ref (eC K 17)] H Q :=
  ⟨a, _, d, _, _, _, rfl, ha, hd, er.xc i hi, fun u r => r, er.kitS i hi, q⟩
theorem xf_of {K : PySem.W.Frag} {C : Addr} (h : ExcC K C) : XfC K C := ⟨h.hg, h.hk, h.hs, h.hd⟩

/-! loops over enumerate, zip -/
section
variable {K : PySem.W.Frag} {σ : L2.St} {H : Hp} {ta : TA} {tb : TS} {g : TG} {D : Ends} {a b : Addr} {xs ys : List V}
def ForJ (J : It) (g : TG) (tb : TS) (D : Ends) (σ : L2.St) (H1 : Hp) : Prop := ∃ W : Nat → Nat → L2.St → Hp → Prop, (∃ m, W 0 m σ H1) ∧ ∀ i m σ H, W i m σ H →
  (J.stop i H ∧ D.nx σ H) ∨ (J.go i H ∧ ∃ N : L2.St → Hp → Prop, (∀ σ' H', N σ' H' → ∃ m', m' < m ∧ W (i + 1) m' σ' H') ∧ ∀ x H', J.yld i H x H' → g x σ H' fun σ2 H2 => tb { D with nx := N, ct := N, bk := D.nx } σ2 H2)
theorem tFor_enum : tFor (iEnum K ta) g tb D σ H = ta σ H fun us H1 => ∃ a xs, us = [.ref a] ∧ SqL K H1 a xs ∧ ForJ (Ite K a) g tb D σ H1 := rfl
theorem forE_in (Pv : Nat → L2.St → Hp → Prop) (h0 : Pv 0 σ H) (hl : ∀ i σ' H', i ≤ xs.length → Pv i σ' H' → SqL K H' a xs) (hd : ∀ σ H, Pv xs.length σ H → D.nx σ H)
    (hs : ∀ (i : Nat) x T σ H, xs[i]? = some x → Pv i σ H → H T = none → g (.ref T) σ (upd H T (.tup [.int (i : Nat), x])) fun σ2 H2 => tb { D with nx := Pv (i + 1), ct := Pv (i + 1), bk := D.nx } σ2 H2) : ForJ (Ite K a) g tb D σ H := by
  refine for_it walk_enum Pv h0 hl ?_ hd
  rintro i x σ H H' hi p ⟨T, x1, y1, rfl, hT, rfl, h1, h2⟩
  cases h1
  exact hs i y1 T σ H h2 p hT
end
end Bs

namespace Bs
open PySem PySem.Spec PyProof.Rows L2
open Evl (Ex)
/-! ### match over words -/
def PCase (X : Cx) (cs : List MatchCase) (t : Str → TS) : Prop := ∀ (first : Bool) (pins : List (Addr × Obj)) (s : Shared) (σ : L2.St) (H : Hp) (D : Ends) (z : Str) (v : Value), Inv X pins σ H s → RelV (.str z) v → t z D σ H →
  wpAny (model X.prog X.w) X.A (matchCases cs X.env v first) (SP X pins D) X.xe s
def tCase (w : Str) (a : TS) (b : Str → TS) : Str → TS := fun z D σ H => if z = w then a D σ H else b z D σ H
def tMatch (te : TE) (t : Str → TS) : TS := fun D σ H => te σ H fun x H1 => ∃ z, x = .str z ∧ t z D σ H1
section
variable {X : Cx} {body : List Stmt} {rest : List MatchCase} {tb : TS} {t : Str → TS} {w : Str} {j : Nat} {p pos : Pos} {e : Expr} {te : TE} {cs : List MatchCase}
theorem pc_nil : PCase X [] fun _ D σ H => D.nx σ H := by
  intro first pins s σ H D z v I r h
  exact wpAny_matchCases_nil ⟨σ, H, I, h⟩
theorem pc_any (hb : PSs X body tb) : PCase X [⟨.MatchAs none none pos, none, body⟩] fun _ => tb := by
  intro first pins s σ H D z v I r h
  refine wpAny_matchCases_cons (wpAny_matchPattern_Capture ?_)
  show wpAny _ _ (assignInOrder [] []) _ _ _
  exact wpAny_pure (hb.run pins s σ H D I h)
theorem pc_word (hb : PSs X body tb) (hr : PCase X rest t) : PCase X (⟨.MatchValue (.Constant (.str w) j p) pos, none, body⟩ :: rest) (tCase w tb t) := by
  intro first pins s σ H D z v I r h
  refine wpAny_matchCases_cons (wpAny_matchPattern_Value ?_)
  have one := (pe_str (X := X) (x := w) (j := j) (pos := p)).run pins s σ H (fun y H1 => y = .str w ∧ H1 = H) I ⟨rfl, rfl⟩
  refine wpAny_mono one ?_ (fun _ _ x => x)
  rintro u s1 ⟨y, H1, I1, r1, rfl, rfl⟩
  have two := op_eq pins s1 σ H1 (.str z) (.str w) v u (fun y H2 => y = .bl (decide (z = w)) ∧ H2 = H1) I1 r r1 ⟨rfl, by simp⟩
  refine wpAny_mono two ?_ (fun _ _ x => x)
  rintro c s2 ⟨y, H2, I2, r2, rfl, rfl⟩
  cases r2
  refine wpAny_truthy_bool ?_
  unfold tCase at h
  by_cases hz : z = w
  · rw [if_pos hz] at h
    rw [decide_eq_true hz]
    show wpAny _ _ (assignInOrder [] []) _ _ _
    exact wpAny_pure (hb.run pins s2 σ H2 D I2 h)
  · rw [if_neg hz] at h
    rw [decide_eq_false hz]
    exact hr false pins s2 σ H2 D z v I2 r h
theorem ps_match (he : PE X e te) (hc : PCase X cs t) : PS X (.Match e cs pos) (tMatch te t) := by
  constructor
  intro pins s σ H D I h
  apply wpAny_Match
  refine wpAny_mono (he.run pins s σ H _ I h) ?_ (fun _ _ x => x)
  rintro v s1 ⟨y, H1, I1, r, z, rfl, q⟩
  exact hc true pins s1 σ H1 D z v I1 r q
end
/-! ### defs of properties -/
def gA (K : PySem.W.Frag) (c f : Str) : Addr := match PySem.W.recIn K (He.ma K (He.ga K c) f) "property" with
  | some (.ref g :: _) => g
  | _ => 0
def fnA (K : PySem.W.Frag) (a : Addr) : He.FnW := match K.lookup a with
  | some ⟨_, _, .func fd, _⟩ => some (fd.name, fd.qualname, fd.params, fd.body, fd.scope, fd.globals, fd.closure, fd.builtins)
  | _ => none
def okA (K : PySem.W.Frag) (a : Addr) (q : Str) : Bool := PySem.W.keepIn K (.ref a) && (match K.lookup a with
  | some ⟨_, _, .func fd, _⟩ => PySem.W.codeIn K fd.code q && (He.dflB K fd.defaults [] && He.kwdB K fd.kwdefaults [])
  | _ => false)
theorem fun_at {K : PySem.W.Frag} {d : He.DefD} {a : Addr} (e : fnA K a = d.val) (c : okA K a d.qual = true) : ∃ fd, FunD K d.name d.qual d.params d.body d.scope [] [] a fd := by
  obtain ⟨kp, c2⟩ := Bool.and_eq_true_iff.mp c
  unfold fnA at e
  generalize hl : K.lookup a = lo at c2 e
  cases lo with
  | none => cases c2
  | some o =>
    obtain ⟨oc, od, dt, osl⟩ := o
    cases dt
    case func fd =>
      obtain ⟨n1, n2, n3, n4, n5, n6, n7, n8, n9, n10, n11, n12, n13, n14, n15⟩ := fd
      have e2 : (some (n1, n2, n3, n4, n5, n6, n7, n15) : He.FnW) = some (d.name, d.qual, d.params, .stmts d.body, d.scope, mainGlobals, [], builtinsNs) := e
      simp only [Option.some.injEq, Prod.mk.injEq] at e2
      obtain ⟨h1, h2, h3, h4, h5, h6, h7, h8⟩ := e2
      subst h1 h2 h3 h4 h5 h6 h7 h8
      have c3 : (PySem.W.codeIn K n13 d.qual && (He.dflB K n8 [] && He.kwdB K n9 [])) = true := c2
      simp only [Bool.and_eq_true] at c3
      exact ⟨_, ⟨oc, od, n8, n9, n10, n11, n12, n13, n14, osl, rfl, hl, c3.1, He.dflB_ok c3.2.1, He.kwdB_ok c3.2.2⟩, kp⟩
    all_goals cases c2
/-- class, name, def -/
abbrev PropD : Type := Str × Str × He.DefD
def propB (K : PySem.W.Frag) (q : PropD) : Bool :=
  decide (PySem.W.findIn K (.ref (He.ga K q.1)) q.2.1 = some (some (.ref (He.ma K (He.ga K q.1) q.2.1)))) && decide (PySem.W.specialIn K (.ref (He.ma K (He.ga K q.1) q.2.1)) "__get__" = some (some (.builtin "property.__get__"))) &&
  decide (PySem.W.takesIn K (.ref (He.ma K (He.ga K q.1) q.2.1)) = some true) && (match PySem.W.recIn K (He.ma K (He.ga K q.1) q.2.1) "property" with
    | some (.ref _ :: _) => true
    | _ => false) && okA K (gA K q.1 q.2.1) q.2.2.qual
theorem propB_ok {K : PySem.W.Frag} {q : PropD} (h : propB K q = true) : PropOf K (He.ga K q.1) q.2.1 (He.ma K (He.ga K q.1) q.2.1) (gA K q.1 q.2.1) ∧ okA K (gA K q.1 q.2.1) q.2.2.qual = true := by
  simp only [propB, Bool.and_eq_true, decide_eq_true_eq, and_assoc] at h
  obtain ⟨h1, h2, h3, h4, h5⟩ := h
  refine ⟨⟨h1, h2, h3, ?_⟩, h5⟩
  unfold gA
  generalize PySem.W.recIn K (He.ma K (He.ga K q.1) q.2.1) "property" = r at *
  cases r with
  | none => cases h4
  | some l =>
    cases l with
    | nil => cases h4
    | cons v l =>
      cases v
      case ref g => exact ⟨l, rfl⟩
      all_goals cases h4
/-! ### the head's facts, with properties too -/
def obP (n : Nat) (cs : List (PySem.W.Frag → Bool)) (ps : List PropD) (fa : List He.Fa) (fn : List He.DefD) (g : Addr → Option Obj) : Bool × He.AlD × List He.FnW :=
  ((cs.all fun c => c (kX n g)) && ps.all (propB (kX n g)), He.obsD fa fn (kX n g), ps.map fun q => fnA (kX n g) (gA (kX n g) q.1 q.2.1))
def valP (ps : List PropD) (fn : List He.DefD) : Bool × He.AlD × List He.FnW := (true, He.valD fn, ps.map fun q => q.2.2.val)
structure SaysP (cs : List (PySem.W.Frag → Bool)) (ps : List PropD) (fa : List He.Fa) (fn : List He.DefD) (K : PySem.W.Frag) : Prop where
  cs : (cs.all fun c => c K) = true
  pb : ps.all (propB K) = true
  pv : (ps.map fun q => fnA K (gA K q.1 q.2.1)) = ps.map fun q => q.2.2.val
  d : He.SaysD fa fn K
def hookP (n : Nat) (cs : List (PySem.W.Frag → Bool)) (ps : List PropD) (fa : List He.Fa) (fn : List He.DefD) : PySem.W.Hook where
  α := Bool × He.AlD × List He.FnW
  obs := fun s => obP n cs ps fa fn s.heap.get?
  val := fun _ => valP ps fn
  says := fun _ h => ∃ K : PySem.W.Frag, K.In h ∧ SaysP cs ps fa fn K
  of := fun _ _ e => by
    have e1 := congrArg (fun z : Bool × He.AlD × List He.FnW => z.1) e
    obtain ⟨a, b⟩ := Bool.and_eq_true_iff.mp e1
    exact ⟨_, He.frG_in, a, b, congrArg (fun z : Bool × He.AlD × List He.FnW => z.2.2) e, congrArg (fun z : Bool × He.AlD × List He.FnW => z.2.1) e⟩
  keeps := fun _ _ _ h k => by
    obtain ⟨K, hK, c⟩ := h
    exact ⟨K, PySem.W.Frag.In.keeps hK k, c⟩
theorem obP_eq {n : Nat} {cs : List (PySem.W.Frag → Bool)} {ps : List PropD} {fa : List He.Fa} {fn : List He.DefD} {g : Addr → Option Obj} {s : Shared} (h : ∀ a, g a = s.heap.get? a) : obP n cs ps fa fn g = (hookP n cs ps fa fn).obs s := by
  have e : g = s.heap.get? := funext h
  rw [e] <;> rfl
theorem SaysP.prop {cs : List (PySem.W.Frag → Bool)} {ps : List PropD} {fa : List He.Fa} {fn : List He.DefD} {K : PySem.W.Frag} (c : SaysP cs ps fa fn K) (i : Nat) {q : PropD} (h : ps[i]? = some q := by rfl) :
    PropOf K (He.ga K q.1) q.2.1 (He.ma K (He.ga K q.1) q.2.1) (gA K q.1 q.2.1) ∧ ∃ fd, FunD K q.2.2.name q.2.2.qual q.2.2.params q.2.2.body q.2.2.scope [] [] (gA K q.1 q.2.1) fd := by
  obtain ⟨p, o⟩ := propB_ok (List.all_eq_true.mp c.pb q (List.mem_of_getElem? h))
  have e2 : (ps.map fun q => fnA K (gA K q.1 q.2.1))[i]? = (ps.map fun q => q.2.2.val)[i]? := by rw [c.pv]
  rw [List.getElem?_map, List.getElem?_map, h] at e2
  exact ⟨p, fun_at (Option.some.inj e2) o⟩
/-- a def that minds no repr is one where none is under way -/
theorem gok_fn {P : Program} {w : World} {K : PySem.W.Frag} {mg : Str → Option Value} {base : Heap} {C : CXT} {k : Nat} {f : Addr} {fd : FuncData} {ps : List Str} {sp : Sp} (F : FnOk P w K mg base C k f fd ps sp) : GOk P w K mg base C k f fd ps sp :=
  ⟨F.len, fun A fr s H args us vs Q E r _ e b v q => F.run A fr s H args us vs Q E r e b v q⟩
/-- e.f in an except suite, e a kept exception -/
theorem pe_fldS {X : Cx} {a : Addr} {pn : List (Addr × Obj)} {e : Expr} {te : TE} {pos : Pos} {n : Str} (he : PE (X.suite a pn) e te) (hb : attributeBase e n X.env (eval e X.env) = eval e X.env := by rfl) :
    PE (X.suite a pn) (.Attribute e n pos) (tFldV X.K n te) := pe_fldV he hb
end Bs

namespace Bs
open PySem PySem.Spec PyProof.Rows L2
open Evl (Ex)
/-! ### methods of one of several classes -/
def tMethD (D : Addr → Prop) (m : Str) (sp : Sp) (E : XK) (ta : TE) (t : TA) : TE := fun σ H Q => ta σ H fun x H1 => ∃ a C dx fs, x = .ref a ∧ H1 a = some (.ins C dx fs) ∧ D C ∧ fs.lookup m = none ∧ t σ H1 fun vs H2 => sp (x :: vs) H2 Q E
def tMethDS (D : Addr → Prop) (m : Str) (sp : Sp) (E : L2.St → XK) (ta : TE) (t : TA) : TE := fun σ H Q => ta σ H fun x H1 => ∃ a C dx fs, x = .ref a ∧ H1 a = some (.ins C dx fs) ∧ D C ∧ fs.lookup m = none ∧ t σ H1 fun vs H2 => sp (x :: vs) H2 Q (E σ)
def tPropD (D : Addr → Prop) (sp : Sp) (E : XK) (ta : TE) : TE := fun σ H Q => ta σ H fun x H1 => ∃ a C dx fs, x = .ref a ∧ H1 a = some (.ins C dx fs) ∧ D C ∧ sp [x] H1 Q E
section
variable {X : Cx} {D : Addr → Prop} {CX : CXT} {k : Nat} {f : Addr} {fd : FuncData} {ps : List Str} {sp : Sp} {E : XK} {ES : L2.St → XK} {m : Str} {o e : Expr} {es : List Expr} {ta : TE} {t : TA} {pos apos : Pos}
theorem pe_methD {pl : Sem Bool} (he : PE X o ta) (cm : ∀ C, D C → Cls X.K C ∧ Meth X.K C m f) (F : FnOk X.prog X.w X.K X.mg X.base CX k f fd ps sp) (hr : Room k X.A) (hb : Binds X.K fd ps []) (hx : Passes CX X E) (ha : PA X (e :: es) t)
    (hst : starEach (e :: es) X.env = (false, eval e X.env) :: starEach es X.env := by rfl) (hpl : (backTo pos (starEach es X.env)).any (·.1) = false := by rfl)
    (ht : eval (.Call (.Attribute o m apos) (e :: es) [] pos) X.env = (do
      let ov ← eval o X.env
      standAt apos.atName
      let (f, first) ← holding [ov] (getMethod ov m pl)
      callWith pos f first (backTo pos (starEach (e :: es) X.env)) (backToKw pos (keywordEach [] X.env))) := by rfl) :
    PE X (.Call (.Attribute o m apos) (e :: es) [] pos) (tMethD D m sp E ta t) := by
  refine ⟨fun pins s σ H Q I h => ?_⟩
  refine PySem.W.methodCall_KW (pl := pl) (thn (he.run pins s σ H _ I h) fun u s1 ⟨x, H1, I1, rx, a, C, dx, fs, ex, ea, hC, l, q⟩ => ?_) ht
  subst ex
  obtain rfl : u = Value.ref a := rx
  obtain ⟨c, hm⟩ := cm C hC
  refine getmeth_ok I1 ea c hm l ?_
  refine PySem.W.callWith_K (first := [.ref a]) (h₀ := X.base) I.ok.mod.kin hm.kp (thn (ha.run pos pins s1 σ H1 _ I1 q) fun us s2 ⟨vs, H2, I2, r, q2⟩ => ⟨I2.kIn, ?_⟩) hst hpl
  exact run_fn (dvs := []) (ds := []) (us := .ref a :: us) (vs := .ref a :: vs) F hr hb .nil hx I2 (.cons rfl r) (by rw [List.append_nil]; exact q2)
theorem pe_meth0D {pl : Sem Bool} (he : PE X o ta) (cm : ∀ C, D C → Cls X.K C ∧ Meth X.K C m f) (F : FnOk X.prog X.w X.K X.mg X.base CX k f fd ps sp) (hr : Room k X.A) (hb : Binds X.K fd ps []) (hx : Passes CX X E)
    (ht : eval (.Call (.Attribute o m apos) [] [] pos) X.env = (do
      let ov ← eval o X.env
      standAt apos.atName
      let (f, first) ← holding [ov] (getMethod ov m pl)
      callWith pos f first (backTo pos (starEach [] X.env)) (backToKw pos (keywordEach [] X.env))) := by rfl) :
    PE X (.Call (.Attribute o m apos) [] [] pos) (tMethD D m sp E ta tNil) := by
  refine ⟨fun pins s σ H Q I h => ?_⟩
  refine PySem.W.methodCall_KW (pl := pl) (thn (he.run pins s σ H _ I h) fun u s1 ⟨x, H1, I1, rx, a, C, dx, fs, ex, ea, hC, l, q⟩ => ?_) ht
  subst ex
  obtain rfl : u = Value.ref a := rx
  obtain ⟨c, hm⟩ := cm C hC
  refine getmeth_ok I1 ea c hm l ?_
  exact PySem.W.callWith_K0 (first := [.ref a]) I1.kIn hm.kp (run_fn (dvs := []) (ds := []) (us := [.ref a]) (vs := [.ref a]) F hr hb .nil hx I1 (.cons rfl .nil) q)
/-- the callee runs, what it raises wished for at the caller's slots -/
theorem run_fS {pins : List (Addr × Obj)} {σ : L2.St} {H : Hp} {s : Shared} {Q : VK} {us : List Value} {vs : List V}
    (F : FnOk X.prog X.w X.K X.mg X.base CX k f fd ps sp) (hr : Room k X.A) (hb : Binds X.K fd ps []) (hx : PassesAt CX X σ (ES σ))
    (I : Inv X pins σ H s) (r : Vals vs us) (h : sp vs H Q (ES σ)) : wpAny (model X.prog X.w) X.A (call (.ref f) us) (EP X pins σ Q) X.xe s := by
  have len : us.length = ps.length := r.length ▸ F.len _ _ _ _ h
  have b := hb s us I.kIn (by rw [List.append_nil]; exact len)
  rw [List.append_nil] at b
  refine wpAny_call (codeAny_mono (F.run X.A X.stack s H ⟨us, []⟩ us vs Q (ES σ) hr I.env0 b r h) ?_)
  rintro (er | fl) s' z
  · exact hx pins H s er s' I z
  · cases fl with
    | ret u => exact I.after z
    | _ => exact z.elim
theorem pe_methDS {pl : Sem Bool} (he : PE X o ta) (cm : ∀ C, D C → Cls X.K C ∧ Meth X.K C m f) (F : FnOk X.prog X.w X.K X.mg X.base CX k f fd ps sp) (hr : Room k X.A) (hb : Binds X.K fd ps []) (hx : ∀ σ, PassesAt CX X σ (ES σ)) (ha : PA X (e :: es) t)
    (hst : starEach (e :: es) X.env = (false, eval e X.env) :: starEach es X.env := by rfl) (hpl : (backTo pos (starEach es X.env)).any (·.1) = false := by rfl)
    (ht : eval (.Call (.Attribute o m apos) (e :: es) [] pos) X.env = (do
      let ov ← eval o X.env
      standAt apos.atName
      let (f, first) ← holding [ov] (getMethod ov m pl)
      callWith pos f first (backTo pos (starEach (e :: es) X.env)) (backToKw pos (keywordEach [] X.env))) := by rfl) :
    PE X (.Call (.Attribute o m apos) (e :: es) [] pos) (tMethDS D m sp ES ta t) := by
  refine ⟨fun pins s σ H Q I h => ?_⟩
  refine PySem.W.methodCall_KW (pl := pl) (thn (he.run pins s σ H _ I h) fun u s1 ⟨x, H1, I1, rx, a, C, dx, fs, ex, ea, hC, l, q⟩ => ?_) ht
  subst ex
  obtain rfl : u = Value.ref a := rx
  obtain ⟨c, hm⟩ := cm C hC
  refine getmeth_ok I1 ea c hm l ?_
  refine PySem.W.callWith_K (first := [.ref a]) (h₀ := X.base) I.ok.mod.kin hm.kp (thn (ha.run pos pins s1 σ H1 _ I1 q) fun us s2 ⟨vs, H2, I2, r, q2⟩ => ⟨I2.kIn, ?_⟩) hst hpl
  exact run_fS (us := .ref a :: us) (vs := .ref a :: vs) F hr hb (hx σ) I2 (.cons rfl r) q2
theorem pe_meth0DS {pl : Sem Bool} (he : PE X o ta) (cm : ∀ C, D C → Cls X.K C ∧ Meth X.K C m f) (F : FnOk X.prog X.w X.K X.mg X.base CX k f fd ps sp) (hr : Room k X.A) (hb : Binds X.K fd ps []) (hx : ∀ σ, PassesAt CX X σ (ES σ))
    (ht : eval (.Call (.Attribute o m apos) [] [] pos) X.env = (do
      let ov ← eval o X.env
      standAt apos.atName
      let (f, first) ← holding [ov] (getMethod ov m pl)
      callWith pos f first (backTo pos (starEach [] X.env)) (backToKw pos (keywordEach [] X.env))) := by rfl) :
    PE X (.Call (.Attribute o m apos) [] [] pos) (tMethDS D m sp ES ta tNil) := by
  refine ⟨fun pins s σ H Q I h => ?_⟩
  refine PySem.W.methodCall_KW (pl := pl) (thn (he.run pins s σ H _ I h) fun u s1 ⟨x, H1, I1, rx, a, C, dx, fs, ex, ea, hC, l, q⟩ => ?_) ht
  subst ex
  obtain rfl : u = Value.ref a := rx
  obtain ⟨c, hm⟩ := cm C hC
  refine getmeth_ok I1 ea c hm l ?_
  exact PySem.W.callWith_K0 (first := [.ref a]) I1.kIn hm.kp (run_fS (us := [.ref a]) (vs := [.ref a]) F hr hb (hx σ) I1 (.cons rfl .nil) q)
theorem pe_propD {g : Addr} (he : PE X e ta) (cm : ∀ C, D C → Cls X.K C ∧ ∃ p, PropOf X.K C m p g) (F : FnOk X.prog X.w X.K X.mg X.base CX k g fd ps sp) (hr : Room (k + 1) X.A) (hb : Binds X.K fd ps []) (hx : Passes CX X.nox E)
    (hab : attributeBase e m X.env (eval e X.env) = eval e X.env) : PE X (.Attribute e m pos) (tPropD D sp E ta) := by
  refine ⟨fun pins s σ H Q I h => ?_⟩
  refine attr_of hab (thn (he.run pins s σ H _ I h) fun u s1 ⟨x, H1, I1, rx, a, C, dx, fs, ex, ea, hC, q⟩ => ?_)
  subst ex
  obtain rfl : u = Value.ref a := rx
  obtain ⟨c, p, hp⟩ := cm C hC
  exact getprop_ok I1 ea c hp F hr hb .nil hx q
end
/-! ### == by an own __eq__ -/
def rEqI (K : PySem.W.Frag) (D : Addr → Prop) (sp : Sp) (E : XK) : R2 := fun x y H Q => ∃ a C dx fs tb, x = .ref a ∧ H a = some (.ins C dx fs) ∧ D C ∧ TyX K H y tb ∧ PySem.W.notFirst K C tb = true ∧ sp [.ref a, y] H (fun v H' => ∃ b, v = .bl b ∧ Q (.bl b) H') E
theorem op_eqI {X : Cx} {D : Addr → Prop} {CX : CXT} {n : Nat} {f : Addr} {fd : FuncData} {ps : List Str} {sp : Sp} {E : XK} (F : FnOk X.prog X.w X.K X.mg X.base CX n f fd ps sp) (hr : Room n X.A) (hm : ∀ C, D C → Meth X.K C "__eq__" f) (hb : Binds X.K fd ps []) (hx : Passes CX X E) :
    OpR X (compareOp .Eq) (rEqI X.K D sp E) := by
  intro pins s σ H x y v u Q I rx ry h
  obtain ⟨a, C, dx, fs, tb, rfl, ha, hC, ty, hn, hq⟩ := h
  cases rx
  obtain ⟨P, Z, hP, _⟩ := kit_of I ry ty
  obtain ⟨mA, J, _⟩ := ins_get I.hok ha
  obtain ⟨od, J, _⟩ := J.look
  obtain ⟨m, hF⟩ := I.fr
  have M := hm C hC
  show wpAny (model X.prog X.w) X.A (richCompare .Eq _ u) (EP X pins σ Q) X.xe s
  refine PySem.W.cmp_K (op := .Eq) (tb := tb) hr.units0 hF I.ok.mod.kin J (Z.ty _ _ I.kIn hP) hn M.at_ M.fn ?_
  have r2 : Vals [V.ref a, y] [Value.ref a, u] := .cons rfl (.cons ry .nil)
  have hl := F.len _ _ _ _ hq
  refine wpAny_call (codeAny_mono (F.run X.A X.stack s H ⟨[.ref a, u], []⟩ [.ref a, u] [.ref a, y] _ E hr I.env0 (by
    have := hb s [.ref a, u] I.kIn (by simpa using hl)
    simpa using this) r2 hq) fun r s' z => ?_)
  cases r with
  | error e => exact hx pins σ H s e s' I z
  | ok fl =>
    cases fl with
    | ret w =>
      obtain ⟨z, H', I', rz, b, ez, q⟩ := I.after z
      subst ez
      cases rz
      exact ⟨.bl b, H', I', rfl, q⟩
    | next => exact False.elim z
    | brk => exact False.elim z
    | cont => exact False.elim z
end Bs

namespace Bs
open PySem PySem.Spec PyProof.Rows L2
open Evl (Ex)
/-! ### dicts of the module with text keys -/
def relEB (K : PySem.W.Frag) (e : DictEntry) (q : Str × He.Dv) : Bool := (match e.key with
  | .str x _ => decide (x = q.1)
  | _ => false) && He.relB (q.2.v K) e.val
def relLB (K : PySem.W.Frag) : List DictEntry → List (Str × He.Dv) → Bool
  | [], [] => true
  | e :: r, q :: t => relEB K e q && relLB K r t
  | _, _ => false
def vdB (K : PySem.W.Frag) (a : Addr) (kvs : List (Str × He.Dv)) : Bool := match K.lookup a with
  | some ⟨_, _, .dict es _, _⟩ => relLB K es.toList kvs
  | _ => false
def nsL (l : List DictEntry) (z : Str) : Option (Option Value) := match l.find? (·.key.isStr z) with
  | some e => some (some e.val)
  | none => if l.any (·.refKey) then none else some none
theorem relE_ok {K : PySem.W.Frag} {e : DictEntry} {q : Str × He.Dv} (h : relEB K e q = true) : (∃ t, e.key = .str q.1 t) ∧ RelV (q.2.v K) e.val := by
  unfold relEB at h
  obtain ⟨h1, h2⟩ := Bool.and_eq_true_iff.mp h
  refine ⟨?_, He.relB_ok h2⟩
  cases k : e.key with
  | str x t =>
    rw [k] at h1
    exact ⟨t, by rw [of_decide_eq_true h1]⟩
  | _ => rw [k] at h1; cases h1
theorem nsL_ok {K : PySem.W.Frag} (z : Str) : ∀ {l : List DictEntry} {kvs : List (Str × He.Dv)}, relLB K l kvs = true → ∃ r, nsL l z = some r ∧ RelO ((kvs.map fun q => (q.1, q.2.v K)).lookup z) r ∧ l.any (·.refKey) = false
  | [], [], _ => ⟨none, rfl, trivial, rfl⟩
  | [], _ :: _, h => by cases h
  | _ :: _, [], h => by cases h
  | e :: l, q :: kvs, h => by
    obtain ⟨h1, h2⟩ := Bool.and_eq_true_iff.mp (show (relEB K e q && relLB K l kvs) = true from h)
    obtain ⟨⟨t, ek⟩, rv⟩ := relE_ok h1
    obtain ⟨r, e1, e2, e3⟩ := nsL_ok z h2
    have nr : e.refKey = false := by unfold DictEntry.refKey; rw [ek]
    have isz : e.key.isStr z = (q.1 == z) := by rw [ek]; rfl
    have an : (e :: l).any (·.refKey) = false := by rw [List.any_cons, nr, e3]; rfl
    by_cases c : z = q.1
    · subst c
      refine ⟨some e.val, ?_, ?_, an⟩
      · unfold nsL
        rw [List.find?_cons_of_pos (by rw [isz]; exact beq_self_eq_true q.1)]
      · rw [List.map_cons, List.lookup_cons, beq_self_eq_true]
        exact rv
    · refine ⟨r, ?_, ?_, an⟩
      · have z1 : (q.1 == z) = false := beq_eq_false_iff_ne.mpr (Ne.symm c)
        unfold nsL at e1 ⊢
        rw [List.find?_cons_of_neg (by rw [isz, z1]; decide), an]
        rw [e3] at e1
        exact e1
      · have z1 : (z == q.1) = false := beq_eq_false_iff_ne.mpr c
        rw [List.map_cons, List.lookup_cons, z1]
        exact e2
/-- a dict of the module: what it holds at each text -/
def WordD (K : PySem.W.Frag) (w : World) (d : Addr) (kvs : List (Str × V)) : Prop := (∃ es n, KDict K w d es n) ∧ ∀ z, ∃ r, PySem.W.nsIn K d z = some r ∧ RelO (kvs.lookup z) r
theorem wordD_ok {K : PySem.W.Frag} {w : World} {d : Addr} {kvs : List (Str × He.Dv)} (h : ∃ es n, KDict K w d es n) (v : vdB K d kvs = true) : WordD K w d (kvs.map fun q => (q.1, q.2.v K)) := by
  refine ⟨h, fun z => ?_⟩
  obtain ⟨es, n, D⟩ := h
  unfold vdB at v
  rw [D.at_] at v
  obtain ⟨r, e1, e2, _⟩ := nsL_ok z v
  refine ⟨r, ?_, e2⟩
  unfold PySem.W.nsIn
  rw [D.at_]
  exact e1
section
variable {X : Cx} {d : Addr} {kvs : List (Str × V)}
theorem relO_some {o : Option V} {r : Option Value} (h : RelO o r) : r.isSome = o.isSome := by
  cases o <;> cases r <;> first | rfl | cases h
theorem op_in_wd (D : WordD X.K X.w d kvs) : OpR X (compareOp .In) (fun x y H Q => ∃ z, x = .str z ∧ y = .ref d ∧ Q (.bl (kvs.lookup z).isSome) H) := by
  obtain ⟨⟨es, n, kd⟩, hv⟩ := D
  intro pins s σ H x y v u Q I rx ry ⟨z, e1, e2, q⟩
  obtain ⟨r, n1, n2⟩ := hv z
  exact op_in_kd kd pins s σ H x y v u Q I rx ry ⟨z, r, e1, e2, n1, by rw [relO_some n2]; exact q⟩
theorem op_notIn_wd (D : WordD X.K X.w d kvs) : OpR X (compareOp .NotIn) (fun x y H Q => ∃ z, x = .str z ∧ y = .ref d ∧ Q (.bl (!(kvs.lookup z).isSome)) H) := by
  obtain ⟨⟨es, n, kd⟩, hv⟩ := D
  intro pins s σ H x y v u Q I rx ry ⟨z, e1, e2, q⟩
  obtain ⟨r, n1, n2⟩ := hv z
  exact op_notIn_kd kd pins s σ H x y v u Q I rx ry ⟨z, r, e1, e2, n1, by rw [relO_some n2]; exact q⟩
theorem op_item_wd (D : WordD X.K X.w d kvs) : OpR X getItem (fun x y H Q => ∃ z v0, x = .ref d ∧ y = .str z ∧ kvs.lookup z = some v0 ∧ Q v0 H) := by
  obtain ⟨⟨es, n, kd⟩, hv⟩ := D
  intro pins s σ H x y v u Q I rx ry ⟨z, v0, e1, e2, e3, q⟩
  obtain ⟨r, n1, n2⟩ := hv z
  rw [e3] at n2
  cases r with
  | none => cases n2
  | some u0 => exact op_item_kd kd pins s σ H x y v u Q I rx ry ⟨z, u0, v0, e1, e2, n1, n2, q⟩
theorem ix_wd (D : WordD X.K X.w d kvs) : IxR X (fun x y H Q => ∃ z v0, x = .ref d ∧ y = .str z ∧ kvs.lookup z = some v0 ∧ Q v0 H) := by
  intro value slice pins s σ H x y v u Q I rx ry h hs
  have h2 := op_item_wd D pins s σ H x y v u Q I rx ry h
  obtain ⟨⟨es, n, kd⟩, hv⟩ := D
  obtain ⟨z, v0, rfl, rfl, e3, q⟩ := h
  cases rx
  exact tail_any (kd_type kd I) PySem.F.slot_dict_getitem.lookup h2 hs
end
/-! ### the head's facts, with tables too -/
def obW (n : Nat) (cs : List (PySem.W.Frag → Bool)) (ps : List PropD) (fa : List He.Fa) (fn : List He.DefD) (ts : List He.Tab) (g : Addr → Option Obj) : (Bool × He.AlD × List He.FnW) × List (Option (List (Option (Str × Int)))) :=
  (obP n cs ps fa fn g, ts.map fun t => He.dicW (kX n g) (t.1 (kX n g)))
structure SaysW (cs : List (PySem.W.Frag → Bool)) (ps : List PropD) (fa : List He.Fa) (fn : List He.DefD) (ts : List He.Tab) (w : World) (K : PySem.W.Frag) : Prop where
  p : SaysP cs ps fa fn K
  t : (ts.map fun t => He.dicW K (t.1 K)) = ts.map fun t => some (He.keysIn w.params t.2)
def hookW (n : Nat) (cs : List (PySem.W.Frag → Bool)) (ps : List PropD) (fa : List He.Fa) (fn : List He.DefD) (ts : List He.Tab) : PySem.W.Hook where
  α := (Bool × He.AlD × List He.FnW) × List (Option (List (Option (Str × Int))))
  obs := fun s => obW n cs ps fa fn ts s.heap.get?
  val := fun w => (valP ps fn, ts.map fun t => some (He.keysIn w.params t.2))
  says := fun w h => ∃ K : PySem.W.Frag, K.In h ∧ SaysW cs ps fa fn ts w K
  of := fun w _ e => by
    have e0 := congrArg (fun z : (Bool × He.AlD × List He.FnW) × List (Option (List (Option (Str × Int)))) => z.1) e
    have e1 := congrArg (fun z : Bool × He.AlD × List He.FnW => z.1) e0
    obtain ⟨a, b⟩ := Bool.and_eq_true_iff.mp e1
    exact ⟨_, He.frG_in, ⟨a, b, congrArg (fun z : Bool × He.AlD × List He.FnW => z.2.2) e0, congrArg (fun z : Bool × He.AlD × List He.FnW => z.2.1) e0⟩,
      congrArg (fun z : (Bool × He.AlD × List He.FnW) × List (Option (List (Option (Str × Int)))) => z.2) e⟩
  keeps := fun _ _ _ h k => by
    obtain ⟨K, hK, c⟩ := h
    exact ⟨K, PySem.W.Frag.In.keeps hK k, c⟩
theorem obW_eq {n : Nat} {cs : List (PySem.W.Frag → Bool)} {ps : List PropD} {fa : List He.Fa} {fn : List He.DefD} {ts : List He.Tab} {g : Addr → Option Obj} {s : Shared} (h : ∀ a, g a = s.heap.get? a) : obW n cs ps fa fn ts g = (hookW n cs ps fa fn ts).obs s := by
  have e : g = s.heap.get? := funext h
  rw [e] <;> rfl
theorem SaysW.tab {cs : List (PySem.W.Frag → Bool)} {ps : List PropD} {fa : List He.Fa} {fn : List He.DefD} {ts : List He.Tab} {w : World} {K : PySem.W.Frag} (c : SaysW cs ps fa fn ts w K) (i : Nat) {t : He.Tab} (h : ts[i]? = some t := by rfl) : ∃ es n, KDict K w (t.1 K) es n := by
  have e2 : (ts.map fun t => He.dicW K (t.1 K))[i]? = (ts.map fun t => some (He.keysIn w.params t.2))[i]? := by rw [c.t]
  rw [List.getElem?_map, List.getElem?_map, h] at e2
  exact He.dicW_ok (Option.some.inj e2)
end Bs

namespace Bs
open PySem PySem.Spec PyProof.Rows L2
open Evl (Ex)
/-! ### defs with *v -/
def spStar (n : Nat) (sp : Sp) : Sp := fun vs H Q E => ∃ ws rest, vs = ws ++ rest ∧ ws.length = n ∧ rest.length ≤ sizeLine ∧ ∀ p, H p = Option.none → sp (ws ++ [V.ref p]) (upd H p (.tup rest)) Q E
section
variable {P : Program} {w : World} {K : PySem.W.Frag} {mg : Str → Option Value} {base : Heap} {x qual : Str} {params : Arguments} {body : List Stmt} {scope : Scope} {kws : List (Str × V)} {f : Addr} {fd : FuncData}
theorem fun_star {CX : CXT} {N ps : List Str} {pv : Str} {k : Nat} {sp : Sp} (F : FunD K x qual params body scope [] kws f fd) (S : FnScope N (ps ++ [pv]) scope) (hCX : StX.CXUp CX)
    (hb : ∀ (kV doc pm : Value) (an : Option Addr) (cdv ct : Value) (us rest : List Value), us.length = ps.length → bindArgs (PySem.W.fnOf x qual params body scope .none kV doc pm an cdv ct) ⟨us ++ rest, []⟩ = (newTuple rest >>= fun t => pure (ps.zip us ++ [(pv, t)])))
    (hbody : ∀ (cdv : Value) (A : Around) (fr : List Env) (s : Shared) (H : Hp) (vs : List V) (Q : VK) (E : XK), Room k (A.deeper (envOfC qual scope s.heap.objs.size f cdv)) → sp vs H Q E →
      ∃ t, PSs (cxOf CX P w K mg base N qual scope f cdv A fr s H E) body t ∧ t { nx := fun _ H' => Q .non H', rt := Q } (start N vs) H) : FnR P w K mg base CX (k + 1) f (spStar ps.length sp) := by
  obtain ⟨oc, od, dV, kV, doc, pm, an, cdv, ct, osl, rfl, lk, hcd, hD, _⟩ := F.ex
  rcases hD with ⟨_, rfl⟩ | ⟨e, _⟩
  · exact StX.fn_star (ps := ps) (pv := pv) (sp := sp) lk hcd S hCX (hb kV doc pm an cdv ct) fun A fr s H vs Q E hr h => hbody cdv A fr s H vs Q E hr h
  · exact absurd rfl e
end
section
variable {X : Cx} {D : Addr → Prop} {CX : CXT} {k : Nat} {f : Addr} {fd : FuncData} {ps : List Str} {sp : Sp} {E : XK} {ES : L2.St → XK} {m : Str} {o e : Expr} {es : List Expr} {ta : TE} {t : TA} {pos apos : Pos}
theorem pe_methDR {pl : Sem Bool} (he : PE X o ta) (cm : ∀ C, D C → Cls X.K C ∧ Meth X.K C m f) (F : FnR X.prog X.w X.K X.mg X.base CX k f sp) (hr : Room k X.A) (hx : Passes CX X E) (ha : PA X (e :: es) t)
    (hst : starEach (e :: es) X.env = (false, eval e X.env) :: starEach es X.env := by rfl) (hpl : (backTo pos (starEach es X.env)).any (·.1) = false := by rfl)
    (ht : eval (.Call (.Attribute o m apos) (e :: es) [] pos) X.env = (do
      let ov ← eval o X.env
      standAt apos.atName
      let (f, first) ← holding [ov] (getMethod ov m pl)
      callWith pos f first (backTo pos (starEach (e :: es) X.env)) (backToKw pos (keywordEach [] X.env))) := by rfl) :
    PE X (.Call (.Attribute o m apos) (e :: es) [] pos) (tMethD D m sp E ta t) := by
  refine ⟨fun pins s σ H Q I h => ?_⟩
  refine PySem.W.methodCall_KW (pl := pl) (thn (he.run pins s σ H _ I h) fun u s1 ⟨x, H1, I1, rx, a, C, dx, fs, ex, ea, hC, l, q⟩ => ?_) ht
  subst ex
  obtain rfl : u = Value.ref a := rx
  obtain ⟨c, hm⟩ := cm C hC
  refine getmeth_ok I1 ea c hm l ?_
  refine PySem.W.callWith_K (first := [.ref a]) (h₀ := X.base) I.ok.mod.kin hm.kp (thn (ha.run pos pins s1 σ H1 _ I1 q) fun us s2 ⟨vs, H2, I2, r, q2⟩ => ⟨I2.kIn, ?_⟩) hst hpl
  exact wpAny_call (run_fnR (us := .ref a :: us) (vs := .ref a :: vs) F hr hx I2 (.cons rfl r) q2)
theorem pe_meth0DR {pl : Sem Bool} (he : PE X o ta) (cm : ∀ C, D C → Cls X.K C ∧ Meth X.K C m f) (F : FnR X.prog X.w X.K X.mg X.base CX k f sp) (hr : Room k X.A) (hx : Passes CX X E)
    (ht : eval (.Call (.Attribute o m apos) [] [] pos) X.env = (do
      let ov ← eval o X.env
      standAt apos.atName
      let (f, first) ← holding [ov] (getMethod ov m pl)
      callWith pos f first (backTo pos (starEach [] X.env)) (backToKw pos (keywordEach [] X.env))) := by rfl) :
    PE X (.Call (.Attribute o m apos) [] [] pos) (tMethD D m sp E ta tNil) := by
  refine ⟨fun pins s σ H Q I h => ?_⟩
  refine PySem.W.methodCall_KW (pl := pl) (thn (he.run pins s σ H _ I h) fun u s1 ⟨x, H1, I1, rx, a, C, dx, fs, ex, ea, hC, l, q⟩ => ?_) ht
  subst ex
  obtain rfl : u = Value.ref a := rx
  obtain ⟨c, hm⟩ := cm C hC
  refine getmeth_ok I1 ea c hm l ?_
  exact PySem.W.callWith_K0 (first := [.ref a]) I1.kIn hm.kp (wpAny_call (run_fnR (us := [.ref a]) (vs := [.ref a]) F hr hx I1 (.cons rfl .nil) q))
theorem run_fRS {pins : List (Addr × Obj)} {σ : L2.St} {H : Hp} {s : Shared} {Q : VK} {us : List Value} {vs : List V}
    (F : FnR X.prog X.w X.K X.mg X.base CX k f sp) (hr : Room k X.A) (hx : PassesAt CX X σ (ES σ))
    (I : Inv X pins σ H s) (r : Vals vs us) (h : sp vs H Q (ES σ)) : wpAny (model X.prog X.w) X.A (call (.ref f) us) (EP X pins σ Q) X.xe s := by
  refine wpAny_call (codeAny_mono (F X.A X.stack s H us vs Q (ES σ) hr I.env0 r h) ?_)
  rintro (er | fl) s' z
  · exact hx pins H s er s' I z
  · cases fl with
    | ret u => exact I.after z
    | _ => exact z.elim
theorem pe_methDRS {pl : Sem Bool} (he : PE X o ta) (cm : ∀ C, D C → Cls X.K C ∧ Meth X.K C m f) (F : FnR X.prog X.w X.K X.mg X.base CX k f sp) (hr : Room k X.A) (hx : ∀ σ, PassesAt CX X σ (ES σ)) (ha : PA X (e :: es) t)
    (hst : starEach (e :: es) X.env = (false, eval e X.env) :: starEach es X.env := by rfl) (hpl : (backTo pos (starEach es X.env)).any (·.1) = false := by rfl)
    (ht : eval (.Call (.Attribute o m apos) (e :: es) [] pos) X.env = (do
      let ov ← eval o X.env
      standAt apos.atName
      let (f, first) ← holding [ov] (getMethod ov m pl)
      callWith pos f first (backTo pos (starEach (e :: es) X.env)) (backToKw pos (keywordEach [] X.env))) := by rfl) :
    PE X (.Call (.Attribute o m apos) (e :: es) [] pos) (tMethDS D m sp ES ta t) := by
  refine ⟨fun pins s σ H Q I h => ?_⟩
  refine PySem.W.methodCall_KW (pl := pl) (thn (he.run pins s σ H _ I h) fun u s1 ⟨x, H1, I1, rx, a, C, dx, fs, ex, ea, hC, l, q⟩ => ?_) ht
  subst ex
  obtain rfl : u = Value.ref a := rx
  obtain ⟨c, hm⟩ := cm C hC
  refine getmeth_ok I1 ea c hm l ?_
  refine PySem.W.callWith_K (first := [.ref a]) (h₀ := X.base) I.ok.mod.kin hm.kp (thn (ha.run pos pins s1 σ H1 _ I1 q) fun us s2 ⟨vs, H2, I2, r, q2⟩ => ⟨I2.kIn, ?_⟩) hst hpl
  exact run_fRS (us := .ref a :: us) (vs := .ref a :: vs) F hr (hx σ) I2 (.cons rfl r) q2
theorem pe_meth0DRS {pl : Sem Bool} (he : PE X o ta) (cm : ∀ C, D C → Cls X.K C ∧ Meth X.K C m f) (F : FnR X.prog X.w X.K X.mg X.base CX k f sp) (hr : Room k X.A) (hx : ∀ σ, PassesAt CX X σ (ES σ))
    (ht : eval (.Call (.Attribute o m apos) [] [] pos) X.env = (do
      let ov ← eval o X.env
      standAt apos.atName
      let (f, first) ← holding [ov] (getMethod ov m pl)
      callWith pos f first (backTo pos (starEach [] X.env)) (backToKw pos (keywordEach [] X.env))) := by rfl) :
    PE X (.Call (.Attribute o m apos) [] [] pos) (tMethDS D m sp ES ta tNil) := by
  refine ⟨fun pins s σ H Q I h => ?_⟩
  refine PySem.W.methodCall_KW (pl := pl) (thn (he.run pins s σ H _ I h) fun u s1 ⟨x, H1, I1, rx, a, C, dx, fs, ex, ea, hC, l, q⟩ => ?_) ht
  subst ex
  obtain rfl : u = Value.ref a := rx
  obtain ⟨c, hm⟩ := cm C hC
  refine getmeth_ok I1 ea c hm l ?_
  exact PySem.W.callWith_K0 (first := [.ref a]) I1.kIn hm.kp (run_fRS (us := [.ref a]) (vs := [.ref a]) F hr (hx σ) I1 (.cons rfl .nil) q)
end
/-! ### enumerate of a tuple -/
theorem enum_newB {v : Value} {o : Obj} {G : Heap → Prop} (B : Begins v o G) : Meets (Builtin.«enumerate.__new__» ⟨[.type "enumerate", v], []⟩) (fun _ R s => G s.heap ∧
    R (.ok (.ret (.ref (s.heap.push o).objs.size))) { s with heap := (s.heap.push o).push { cls := .type "enumerate", data := .fields #[.none, .bool false, .ref s.heap.objs.size, rawInt 0, .none, .none] } }) :=
  .of_wp fun prog w A R ⟨hp, g, d, tk, os⟩ ⟨h1, h⟩ => by
    have sb := sub_enumerate
    have qi : ∀ {A' : Around} {E : Value → Shared → Prop} {Q : Value → Shared → Prop}, Q (.ref hp.objs.size) ⟨hp.push o, g, d, tk, os⟩ → wpAny (model prog w) A' (pyIter v) Q E ⟨hp, g, d, tk, os⟩ := fun q => B.iter prog w _ _ ⟨hp, g, d, tk, os⟩ _ h1 q
    wp_walk using qi
    refine wpAny_stack_any fun st => wpAny_pure ?_
    split
    · rename_i c _ _ _ _ _
      cases (c == Value.type "enumerate") <;> (wp_walk using qi; exact ⟨_, rfl, h⟩)
    · wp_walk using qi; exact ⟨_, rfl, h⟩
theorem enum_beginsB {prog : Program} {w : World} {A : Around} {E : Value → Shared → Prop} {s : Shared} {v : Value} {o : Obj} {G : Heap → Prop} {Q : Value → Shared → Prop} (B : Begins v o G) (h1 : G s.heap)
    (h : ∀ h', IsEnum h' (s.heap.objs.size + 1) s.heap.objs.size 0 .none → h'.get? s.heap.objs.size = some o → h'.objs.size = s.heap.objs.size + 2 → (∀ b o, s.heap.get? b = some o → h'.get? b = some o) → Q (.ref (s.heap.objs.size + 1)) { s with heap := h' }) :
    wpAny (model prog w) A (call (.type "enumerate") [v]) Q E s := by
  refine callType_new F.called_enumerate (by decide) (F.typeCall_enumerate_1 _) (F.newCall_enumerate_1 _) (fun ob => F.args_object_init_2 ob _) F.entry_enumerate_new (enum_newB B) ⟨h1, ?_⟩
  have hz : (s.heap.push o).objs.size = s.heap.objs.size + 1 := Heap.size_push ..
  show _ ∧ _
  rw [hz]
  have he := Heap.get?_push_size (s.heap.push o) (o := { cls := .type "enumerate", data := .fields #[.none, .bool false, .ref s.heap.objs.size, rawInt 0, .none, .none] }) rfl
  rw [hz] at he
  exact ⟨⟨_, he, rfl⟩, h _ he (Heap.get?_push_of_some _ (Heap.get?_push_size _ B.free)) (by rw [Heap.size_push, hz]) fun b o x => Heap.get?_push_of_some _ (Heap.get?_push_of_some _ x)⟩
def IteT (K : PySem.W.Frag) (a : Addr) (m : Nat) : It :=
  ⟨fun i H => ∃ (xs : List V) (x : V), SqT K H a xs ∧ xs[i]? = some x ∧ xs.length = m, fun i H v H' => ∃ T x, v = .ref T ∧ H T = none ∧ H' = upd H T (.tup [.int (i : Nat), x]) ∧ ∀ xs, SqT K H a xs → xs[i]? = some x, fun i H => ∃ xs : List V, SqT K H a xs ∧ xs.length ≤ i ∧ xs.length = m⟩
theorem turn_enumT {P : Program} {w : World} {K : PySem.W.Frag} {elts : List Expr} {kk : Nat} {tpos : Pos} (a e it : Addr) (m : Nat) :
    Turn P w K (.Tuple elts kk tpos) (IteT K a m) [e, it] e (fun i h => (∃ old, IsEnum h e it ((i : Nat) : Int) old) ∧ h.IsTupleIter it a i ∧ e ≠ it ∧ i ≤ m) where
  mem := by simp
  obj := fun i h ⟨⟨old, he⟩, ⟨o, ho, hc, hd⟩, _⟩ b hb => by
    rcases (by simpa using hb : b = e ∨ b = it) with z | z
    · rw [z]; exact ⟨_, he, fun v q => nomatch q⟩
    · rw [z]; exact ⟨o, ho, fun v q => by rw [hd] at q; cases q⟩
  keep := fun i h h' ⟨⟨old, he⟩, hi, hne, hm⟩ k => ⟨⟨old, k e (by simp) _ he⟩, hi.at fun o q => k it (by simp) o q, hne, hm⟩
  item := by
    intro X hP hw hK hc i pins s σ H E I hf ⟨⟨old, he⟩, hit, hne, hm⟩ ⟨xs, x, hq, hx, hxm⟩
    subst hP hw hK
    obtain ⟨its, rv, p, hz⟩ := I.tuple hq
    obtain ⟨u, hu, ru⟩ := rv.get hx
    have p2 : s.heap.IsTuple a its.toArray := p
    have hl := rv.length
    have hel : e < s.heap.objs.size := Heap.lt_size he
    have hil : it < s.heap.objs.size := by obtain ⟨_, q, _⟩ := hit; exact Heap.lt_size q
    have nae : a ≠ it := fun z => by
      obtain ⟨o1, q1, c1, _⟩ := hit
      obtain ⟨o2, q2, c2, _⟩ := p2
      rw [z, q1] at q2
      cases q2
      rw [c1] at c2
      exact absurd (Value.type.inj c2) (by decide)
    have na : a ≠ e := fun z => by
      obtain ⟨o2, q2, c2, _⟩ := p2
      rw [z, he] at q2
      cases q2
      exact absurd (Value.type.inj c2) (by decide)
    have im : i < its.toArray.size := by
      have := (List.getElem?_eq_some_iff.mp hx).1
      simp; omega
    refine wpAny_pyNext_enum_itemD (Draws.tuple (A := X.A.in1) (I.ok.hd hc) it a nae its.toArray) he ⟨hit, p2⟩ im hne (by simp [hne, Ne.symm na]) fun u1 h' tk hu1 ho hst hT hsz hk => ?_
    obtain rfl : u1 = u := by
      have : its.toArray[i]? = some u := by simpa using hu
      rw [hu1] at this
      exact Option.some.inj this
    refine ⟨_, rfl, wpAny_letOwnedTupleGo_enum (s := { s with heap := h', toks := tk + 1 }) ho fun h'' he' sb => ?_⟩
    have hT2 : h''.get? s.heap.objs.size = some { cls := .type "tuple", data := .seq #[.int i tk, u1] } := (sb.2 _ (Nat.ne_of_gt hel)).trans hT
    have new : ObjOk X.prog X.w (upd H s.heap.objs.size (.tup [.int (i : Nat), x])) h'' s.heap.objs.size (.tup [.int (i : Nat), x]) :=
      ⟨by show 2 ≤ sizeLine; decide, [.int i tk, u1], .cons ⟨_, rfl⟩ (.cons ru .nil), ⟨_, hT2, rfl, _, rfl⟩⟩
    have I1 : Inv X pins σ (upd H s.heap.objs.size (.tup [.int (i : Nat), x])) { s with heap := h'', toks := tk + 1 } :=
      I.turnedNew (ch := [e, it]) (fun b ob hb q => (sb.2 b (fun z => hb (by simp [z]))).trans (hk b ob (fun z => hb (by simp [z])) (fun z => hb (by simp [z])) q)) hf (Nat.le_refl _) new
    refine ⟨.ref s.heap.objs.size, _, I1, rfl, ⟨_, x, rfl, I.hok.fresh (Nat.le_refl _), rfl, fun ys hy => by rw [I.tuple_inj hy hq]; exact hx⟩, ⟨⟨u1, ?_⟩, hst.1.at fun o q => (sb.2 it (Ne.symm hne)).trans q, hne, ?_⟩, fun b hb => ?_⟩
    · rw [show ((i + 1 : Nat) : Int) = (i : Int) + 1 by omega]; exact he'
    · have := (List.getElem?_eq_some_iff.mp hx).1
      omega
    · have hb' : b < s.heap.objs.size := by
        rcases (by simpa using hb : b = e ∨ b = it) with z | z
        · rw [z]; exact hel
        · rw [z]; exact hil
      rw [upd_ne (Nat.ne_of_lt hb')]
      exact (hf b hb).1
  done := by
    intro X hP hw hK hc i pins s σ H E I hf ⟨⟨old, he⟩, hit, hne, hm⟩ ⟨xs, hq, hx, hxm⟩
    subst hP hw hK
    obtain ⟨its, rv, p, hz⟩ := I.tuple hq
    have p2 : s.heap.IsTuple a its.toArray := p
    obtain ⟨f0, f1, f2, f3, f4, f5⟩ := hf it (by simp)
    have hl := rv.length
    have nae : a ≠ it := fun z => by
      obtain ⟨o1, q1, c1, _⟩ := hit
      obtain ⟨o2, q2, c2, _⟩ := p2
      rw [z, q1] at q2
      cases q2
      rw [c1] at c2
      exact absurd (Value.type.inj c2) (by decide)
    have e1 : i = its.toArray.size := by simp; omega
    refine wpAny_pyNext_enum_endD (Draws.tuple (A := X.A.in1) (I.ok.hd hc) it a nae its.toArray) he ⟨e1 ▸ hit, p2⟩ fun h' eb => ⟨rfl, I.turned (t' := s.toks) (fun b o hb q => eb b o hb q) f0 f1 f3 f4 f5⟩
  self := fun A i s Q E ⟨⟨_, he⟩, _⟩ h => wpAny_pyIter_enum he h
def iEnumT (K : PySem.W.Frag) (ta : TA) : TI := fun σ H R => ta σ H fun vs H1 => ∃ a xs, vs = [.ref a] ∧ SqT K H1 a xs ∧ R (IteT K a xs.length) H1
theorem pi_enumT {X : Cx} {e : Expr} {ta : TA} {p pos tpos : Pos} {elts : List Expr} {kk : Nat} (hg : Gl X "enumerate") (hm : X.mg "enumerate" = none) (ha : PA X [e] ta) (hs : starEach [e] X.env = [(false, eval e X.env)] := by rfl) :
    PI X (.Tuple elts kk tpos) (.Call (.Name "enumerate" p) [e] [] pos) (iEnumT X.K ta) := by
  refine ⟨fun pins s σ H R I h => Call_ (ld_blt I hg hm boot_enumerate (PyProof.Rows.callWith_type1 (thn (ha.run pos pins s σ H _ I h) fun us s1 ⟨vs, H1, I1, r1, a, xs, ex, hq, q⟩ => ?_) hs rfl))⟩
  subst ex
  cases r1 with
  | cons r rr =>
    cases rr
    cases r
    obtain ⟨its, rv, p', hz⟩ := I1.tuple hq
    refine enum_beginsB (begins_tuple a its.toArray) p' fun h' he hit hsz hk => wpAny_pyIter_enum he ?_
    have I2 : Inv X pins σ H1 { s1 with heap := h' } := I1.kept (t' := s1.toks) hk
    refine ⟨s1.heap.objs.size + 1, [s1.heap.objs.size + 1, s1.heap.objs.size], _, _, H1, rfl, I2, turn_enumT a (s1.heap.objs.size + 1) s1.heap.objs.size xs.length, ⟨⟨.none, he⟩, ⟨_, hit, rfl, rfl⟩, Nat.succ_ne_self _, Nat.zero_le _⟩, fun b hb => ?_, q⟩
    have hle : s1.heap.objs.size ≤ b := by
      rcases (by simpa using hb : b = s1.heap.objs.size + 1 ∨ b = s1.heap.objs.size) with z | z
      · rw [z]; exact Nat.le_add_right _ _
      · rw [z]; exact Nat.le_refl _
    exact I1.fpOk hle (I1.hok.fresh hle)
section
variable {K : PySem.W.Frag} {σ : L2.St} {H : Hp} {ta : TA} {tb : TS} {g : TG} {D : Ends} {a : Addr} {xs : List V}
theorem tFor_enumT : tFor (iEnumT K ta) g tb D σ H = ta σ H fun us H1 => ∃ a xs, us = [.ref a] ∧ SqT K H1 a xs ∧ ForJ (IteT K a xs.length) g tb D σ H1 := rfl
theorem walk_enumT : Walk (IteT K a xs.length) xs.length (fun H => SqT K H a xs) (YPair (fun i => some (.int (i : Nat))) (fun i => xs[i]?)) := by
  refine ⟨fun i _ hi q => ⟨xs, xs[i], q, by simp [hi], rfl⟩, fun _ q => ⟨xs, q, Nat.le_refl _, rfl⟩, fun i H v H' _ q ⟨T, x, h1, h2, h3, h4⟩ => ⟨T, .int (i : Nat), x, h1, h2, h3, rfl, h4 xs q⟩⟩
theorem forET_in (Pv : Nat → L2.St → Hp → Prop) (h0 : Pv 0 σ H) (hl : ∀ i σ' H', i ≤ xs.length → Pv i σ' H' → SqT K H' a xs) (hd : ∀ σ H, Pv xs.length σ H → D.nx σ H)
    (hs : ∀ (i : Nat) x T σ H, xs[i]? = some x → Pv i σ H → H T = none → g (.ref T) σ (upd H T (.tup [.int (i : Nat), x])) fun σ2 H2 => tb { D with nx := Pv (i + 1), ct := Pv (i + 1), bk := D.nx } σ2 H2) : ForJ (IteT K a xs.length) g tb D σ H := by
  refine for_it walk_enumT Pv h0 hl ?_ hd
  rintro i x σ H H' hi p ⟨T, x1, y1, rfl, hT, rfl, h1, h2⟩
  cases h1
  exact hs i y1 T σ H h2 p hT
end
/-! ### repr and str of data -/
def rReprW (K : PySem.W.Frag) : List V → Hp → VK → Prop := fun xs H Q => ∃ v d, xs = [v] ∧ Df K H v d ∧ Good 20 16000000 d ∧ Q (.str (PyData.shown d)) H
theorem call_repr_W {X : Cx} {k : Nat} (hr : Room k X.A) (hc : Clean X.A) (sy : (X.K.lookup sysModules).isSome = true) : CallR X (.builtin "repr") (rReprW X.K) := by
  intro pins s σ H xs us Q I r ⟨v, d, ex, hd, ⟨g1, g2, g3⟩, q⟩
  subst ex
  have hz : d.shown.length ≤ sizeLine := by rw [sizeLine_eq]; omega
  cases r with
  | cons r0 r1 =>
  cases r1
  obtain ⟨as, rd, na⟩ := df_reads I sy _ _ _ hd r0
  have hu := hr.units
  have big : ∀ {a : Addr}, RelV (.ref a) (.ref a) → Reads s.heap (.ref a) d as → wpAny (model X.prog X.w) X.A (call (.builtin "repr") [.ref a]) (EP X pins σ Q) X.xe s := fun {a} _ rd =>
    repr_of_reads' rd g1 (fun _ => na) hc (by omega) (fun _ _ z => z) (fun h' u tk kk => ⟨.str _, H, I.kept kk, ⟨_, rfl⟩, q⟩) hz
  cases hd with
  | lst _ _ => cases r0; exact big rfl rd
  | tup _ _ => cases r0; exact big rfl rd
  | dct _ => cases r0; exact big rfl rd
  | dp fl hd =>
    cases hd with
    | non => cases r0; exact P.repr_of_none ⟨.str _, H, I.tok _, ⟨_, rfl⟩, q⟩
    | bl b =>
      cases r0
      refine P.repr_of_bool ⟨.str _, H, I.tok _, ⟨_, rfl⟩, ?_⟩
      cases b <;> exact q
    | int i =>
      obtain ⟨t, rfl⟩ := r0
      exact P.repr_of_int (by simpa only [PyData.showable, decide_eq_true_eq] using g1) ⟨.str _, H, I.tok _, ⟨_, rfl⟩, q⟩
    | str x =>
      obtain ⟨t, rfl⟩ := r0
      exact P.repr_of_str ⟨.str _, H, I.tok _, ⟨_, rfl⟩, q⟩ hz
    | lst _ _ => cases fl
    | tup _ _ => cases fl
def rStr2 : List V → Hp → VK → Prop := fun xs H Q => ∃ v, xs = [v] ∧ ((∃ i : Int, v = .int i ∧ i.natAbs.log2 < 1900 ∧ Q (.str (toString i)) H) ∨ ∃ a, v = .str a ∧ Q (.str a) H)
theorem call_str2 {X : Cx} : CallR X (.type "str") rStr2 := by
  intro pins s σ H xs us Q I r ⟨v, ex, h⟩
  subst ex
  rcases h with ⟨i, rfl, l, q⟩ | ⟨a, rfl, q⟩
  · exact call_str_int pins s σ H _ us Q I r ⟨i, rfl, by omega, q⟩
  · exact SkE.call_str_str pins s σ H _ us Q I r ⟨a, rfl, q⟩
/-! ### the types of data -/
def tyD : PyData → String
  | .none => "NoneType"
  | .bool _ => "bool"
  | .int _ => "int"
  | .str _ => "str"
  | .list _ => "list"
  | .tuple _ => "tuple"
  | _ => "dict"
theorem sqL_ty {K : PySem.W.Frag} {H : Hp} {a : Addr} {xs : List V} (h : SqL K H a xs) : TyX K H (.ref a) (.type "list") := by
  rcases h with (h | ⟨o, h⟩) | ⟨o, its, n, hk, hc, _⟩
  · exact .base (.lst h)
  · exact .base (.frz h)
  · exact .kList hk hc
theorem sqT_ty {K : PySem.W.Frag} {H : Hp} {a : Addr} {xs : List V} (h : SqT K H a xs) : TyX K H (.ref a) (.type "tuple") := by
  rcases h with (h | ⟨o, h⟩) | ⟨o, its, n, hk, hc, _⟩
  · exact .base (.tup h)
  · exact .fTuple h
  · exact .kTuple hk hc
theorem dp_ty {K : PySem.W.Frag} {H : Hp} {v : V} {d : PyData} (h : Dp K H v d) : TyX K H v (.type (tyD d)) := by
  cases h with
  | non => exact .base .non
  | bl b => exact .base (.bl b)
  | int i => exact .base (.int i)
  | str x => exact .base (.str x)
  | lst h _ => exact sqL_ty h
  | tup h _ => exact sqT_ty h
/-! ### inside a comprehension: the fragment said outright -/
def rJoin (K : PySem.W.Frag) : V → List V → Hp → VK → Prop := fun x xs H Q => ∃ a p, ∃ ys : List Str, x = .str a ∧ xs = [.ref p] ∧ (SqL K H p (ys.map V.str) ∨ SqT K H p (ys.map V.str)) ∧ (ys.map (·.length)).sum + ys.length * a.length ≤ 16777216 ∧ Q (.str (Txt.join a ys)) H
theorem pe_joinK {X : Cx} {o e : Expr} {to te : TE} {apos pos : Pos} (K : PySem.W.Frag) (hK : X.K = K) (ho : PE X o to) (he : PE X e te) (h1 : starEach [e] X.env = [(false, eval e X.env)] := by rfl) (h2 : attributeBase o (Str.ofString "join") X.env (eval o X.env) = eval o X.env := by rfl) (h3 : (apos.endLine == pos.line) = true := by rfl) :
    PE X ((o.Attribute (Str.ofString "join") apos).Call [e] [] pos) (tM1 (rJoin K) to te) := by
  subst hK
  exact pe_join ho he h1 h2 h3
theorem pi_tupK {X : Cx} {tg l : Expr} {tl : TE} (K : PySem.W.Frag) (hK : X.K = K) (hl : PE X l tl) : PI X tg l (iTup K tl) := by
  subst hK
  exact pi_tup hl
theorem pi_listK {X : Cx} {tg l : Expr} {tl : TE} (K : PySem.W.Frag) (hK : X.K = K) (hl : PE X l tl) : PI X tg l (iList K tl) := by
  subst hK
  exact pi_list hl
/-! ### x in a tuple of data -/
def rInT (K : PySem.W.Frag) : R2 := fun x y H Q => ∃ d ds, Dp K H x d ∧ Dp K H y (.tuple ds) ∧ fine 20 d = true ∧ fine 20 (.tuple ds) = true ∧ Q (.bl (ds.any fun z => z.eqv d)) H
theorem op_inT {X : Cx} {k : Nat} (hr : Room k X.A) : OpR X (compareOp .In) (rInT X.K) := by
  intro pins s σ H x y v u Q I rx ry ⟨d, ds, h1, h2, f1, f2, q⟩
  obtain ⟨as, ra⟩ := Dp.reads I _ _ _ h2 ry
  obtain ⟨bs, rb⟩ := Dp.reads I _ _ _ h1 rx
  have hu := hr.un
  exact PySem.SeqAt.in_tuple_reads ra rb (fine_can (.tuple ds) 20 f2) (fine_can d 20 f1) (room_in_shaped (fine_shaped f1) (by omega)) ⟨.bl _, H, I, rfl, q⟩
end Bs

namespace Bs
open PySem PySem.Spec PyProof.Rows L2
open Evl (Ex)
def topS (i : Nat) : Stmt := PySem.Challenge.pw_backslots_k39_whole_moments_add_up.main.body.getD i (.Pass ⟨0, 0, 0, 0⟩)
abbrev s_is_int : Stmt := topS 1
abbrev s_is_whole : Stmt := topS 2
abbrev s_TooLarge___init__ : Stmt := inClass (topS 5) 0
abbrev s_TooDeep___init__ : Stmt := inClass (topS 6) 0
abbrev s_require_length : Stmt := topS 16
abbrev s_require_slots : Stmt := topS 17
abbrev s_require_task : Stmt := topS 18
abbrev s_reach_of : Stmt := topS 19
abbrev s_rounds_of : Stmt := topS 20
abbrev s_closed_count : Stmt := topS 22
abbrev s_halves_of : Stmt := topS 23
abbrev s_own_operations : Stmt := topS 24
abbrev s_count_of : Stmt := topS 25
abbrev s_parts_of : Stmt := topS 26
abbrev s_whole_plan : Stmt := topS 27
abbrev s_row_operation : Stmt := topS 28
abbrev s_operation_of : Stmt := topS 29
abbrev s_Moment___init__ : Stmt := inClass (topS 30) 0
abbrev s_Moment_go : Stmt := inClass (topS 30) 1
abbrev s_Moment_keep : Stmt := inClass (topS 30) 2
abbrev s_Moment_take : Stmt := inClass (topS 30) 3
abbrev s_Moment_free_last : Stmt := inClass (topS 30) 4
abbrev s_Moment_pass_part : Stmt := inClass (topS 30) 5
abbrev s_Moment_pass_row : Stmt := inClass (topS 30) 6
abbrev s_Moment_told : Stmt := inClass (topS 30) 7
abbrev s_moment_of : Stmt := topS 31
abbrev s_operation_count : Stmt := topS 32
abbrev s_operation_at : Stmt := topS 33
abbrev s_moment : Stmt := topS 34
abbrev s_back_at : Stmt := topS 35
abbrev s_goes_of : Stmt := topS 37
abbrev s_asked_goes : Stmt := topS 38
abbrev s_times_done : Stmt := topS 39
abbrev s_go_at : Stmt := topS 40
abbrev s_most_repeated : Stmt := topS 41
abbrev s_steps_with : Stmt := topS 43
abbrev s_least_of : Stmt := topS 44
abbrev s_least_steps : Stmt := topS 45
abbrev s_step_times : Stmt := topS 46
abbrev s_L_bag : Stmt := topS 48
abbrev s_L_pick : Stmt := topS 49
abbrev s_L_reach : Stmt := topS 50
abbrev s_L_rounds : Stmt := topS 51
abbrev s_L_least : Stmt := topS 52
abbrev s_L_deep : Stmt := topS 53
abbrev s_L_step_right : Stmt := topS 54
abbrev s_L_great_right : Stmt := topS 55
abbrev s_L_small_right : Stmt := topS 56
abbrev s_law : Stmt := topS 57
structure Txt (P : Program) (w : World) (K : PySem.W.Frag) (mg : Str → Option Value) (base : Heap) where
  a_is_int : Addr
  fd_is_int : FuncData
  F_is_int : FnP K "is_int" "is_int" s_is_int a_is_int fd_is_int
  b_is_int : Binds K fd_is_int ["value"] []
  g_is_int : mg "is_int" = some (.ref a_is_int)
  a_is_whole : Addr
  fd_is_whole : FuncData
  F_is_whole : FnP K "is_whole" "is_whole" s_is_whole a_is_whole fd_is_whole
  b_is_whole : Binds K fd_is_whole ["value", "low", "high"] []
  g_is_whole : mg "is_whole" = some (.ref a_is_whole)
  a_TooLarge___init__ : Addr
  fd_TooLarge___init__ : FuncData
  F_TooLarge___init__ : FnP K "__init__" "TooLarge.__init__" s_TooLarge___init__ a_TooLarge___init__ fd_TooLarge___init__
  b_TooLarge___init__ : Binds K fd_TooLarge___init__ ["self", "limit"] []
  a_TooDeep___init__ : Addr
  fd_TooDeep___init__ : FuncData
  F_TooDeep___init__ : FnP K "__init__" "TooDeep.__init__" s_TooDeep___init__ a_TooDeep___init__ fd_TooDeep___init__
  b_TooDeep___init__ : Binds K fd_TooDeep___init__ ["self", "rounds"] []
  a_require_length : Addr
  fd_require_length : FuncData
  F_require_length : FnP K "require_length" "require_length" s_require_length a_require_length fd_require_length
  b_require_length : Binds K fd_require_length ["value"] []
  g_require_length : mg "require_length" = some (.ref a_require_length)
  a_require_slots : Addr
  fd_require_slots : FuncData
  F_require_slots : FnP K "require_slots" "require_slots" s_require_slots a_require_slots fd_require_slots
  b_require_slots : Binds K fd_require_slots ["value"] []
  g_require_slots : mg "require_slots" = some (.ref a_require_slots)
  a_require_task : Addr
  fd_require_task : FuncData
  F_require_task : FnP K "require_task" "require_task" s_require_task a_require_task fd_require_task
  b_require_task : Binds K fd_require_task ["length", "slots"] []
  g_require_task : mg "require_task" = some (.ref a_require_task)
  a_reach_of : Addr
  fd_reach_of : FuncData
  F_reach_of : FnP K "reach_of" "reach_of" s_reach_of a_reach_of fd_reach_of
  b_reach_of : Binds K fd_reach_of ["slots", "rounds"] []
  g_reach_of : mg "reach_of" = some (.ref a_reach_of)
  a_rounds_of : Addr
  fd_rounds_of : FuncData
  F_rounds_of : FnP K "rounds_of" "rounds_of" s_rounds_of a_rounds_of fd_rounds_of
  b_rounds_of : Binds K fd_rounds_of ["length", "slots"] []
  g_rounds_of : mg "rounds_of" = some (.ref a_rounds_of)
  a_closed_count : Addr
  fd_closed_count : FuncData
  F_closed_count : FnP K "closed_count" "closed_count" s_closed_count a_closed_count fd_closed_count
  b_closed_count : Binds K fd_closed_count ["some"] []
  g_closed_count : mg "closed_count" = some (.ref a_closed_count)
  a_halves_of : Addr
  fd_halves_of : FuncData
  F_halves_of : FnP K "halves_of" "halves_of" s_halves_of a_halves_of fd_halves_of
  b_halves_of : Binds K fd_halves_of ["some"] []
  g_halves_of : mg "halves_of" = some (.ref a_halves_of)
  a_own_operations : Addr
  fd_own_operations : FuncData
  F_own_operations : FnP K "own_operations" "own_operations" s_own_operations a_own_operations fd_own_operations
  b_own_operations : Binds K fd_own_operations ["behind"] []
  g_own_operations : mg "own_operations" = some (.ref a_own_operations)
  a_count_of : Addr
  fd_count_of : FuncData
  F_count_of : FnP K "count_of" "count_of" s_count_of a_count_of fd_count_of
  b_count_of : Binds K fd_count_of ["some"] []
  g_count_of : mg "count_of" = some (.ref a_count_of)
  a_parts_of : Addr
  fd_parts_of : FuncData
  F_parts_of : FnP K "parts_of" "parts_of" s_parts_of a_parts_of fd_parts_of
  b_parts_of : Binds K fd_parts_of ["part"] []
  g_parts_of : mg "parts_of" = some (.ref a_parts_of)
  a_whole_plan : Addr
  fd_whole_plan : FuncData
  F_whole_plan : FnP K "whole_plan" "whole_plan" s_whole_plan a_whole_plan fd_whole_plan
  b_whole_plan : Binds K fd_whole_plan ["length", "slots"] []
  g_whole_plan : mg "whole_plan" = some (.ref a_whole_plan)
  a_row_operation : Addr
  fd_row_operation : FuncData
  F_row_operation : FnP K "row_operation" "row_operation" s_row_operation a_row_operation fd_row_operation
  b_row_operation : Binds K fd_row_operation ["part", "number"] []
  g_row_operation : mg "row_operation" = some (.ref a_row_operation)
  a_operation_of : Addr
  fd_operation_of : FuncData
  F_operation_of : FnP K "operation_of" "operation_of" s_operation_of a_operation_of fd_operation_of
  b_operation_of : Binds K fd_operation_of ["plan", "number"] []
  g_operation_of : mg "operation_of" = some (.ref a_operation_of)
  a_Moment___init__ : Addr
  fd_Moment___init__ : FuncData
  F_Moment___init__ : FnP K "__init__" "Moment.__init__" s_Moment___init__ a_Moment___init__ fd_Moment___init__
  b_Moment___init__ : Binds K fd_Moment___init__ ["self"] []
  a_Moment_go : Addr
  fd_Moment_go : FuncData
  F_Moment_go : FnP K "go" "Moment.go" s_Moment_go a_Moment_go fd_Moment_go
  b_Moment_go : Binds K fd_Moment_go ["self", "state", "steps"] []
  a_Moment_keep : Addr
  fd_Moment_keep : FuncData
  F_Moment_keep : FnP K "keep" "Moment.keep" s_Moment_keep a_Moment_keep fd_Moment_keep
  b_Moment_keep : Binds K fd_Moment_keep ["self", "state"] []
  a_Moment_take : Addr
  fd_Moment_take : FuncData
  F_Moment_take : FnP K "take" "Moment.take" s_Moment_take a_Moment_take fd_Moment_take
  b_Moment_take : Binds K fd_Moment_take ["self", "state"] []
  a_Moment_free_last : Addr
  fd_Moment_free_last : FuncData
  F_Moment_free_last : FnP K "free_last" "Moment.free_last" s_Moment_free_last a_Moment_free_last fd_Moment_free_last
  b_Moment_free_last : Binds K fd_Moment_free_last ["self"] []
  a_Moment_pass_part : Addr
  fd_Moment_pass_part : FuncData
  F_Moment_pass_part : FnP K "pass_part" "Moment.pass_part" s_Moment_pass_part a_Moment_pass_part fd_Moment_pass_part
  b_Moment_pass_part : Binds K fd_Moment_pass_part ["self", "part"] []
  a_Moment_pass_row : Addr
  fd_Moment_pass_row : FuncData
  F_Moment_pass_row : FnP K "pass_row" "Moment.pass_row" s_Moment_pass_row a_Moment_pass_row fd_Moment_pass_row
  b_Moment_pass_row : Binds K fd_Moment_pass_row ["self", "part", "many"] []
  a_Moment_told : Addr
  fd_Moment_told : FuncData
  F_Moment_told : FnP K "told" "Moment.told" s_Moment_told a_Moment_told fd_Moment_told
  b_Moment_told : Binds K fd_Moment_told ["self"] []
  a_moment_of : Addr
  fd_moment_of : FuncData
  F_moment_of : FnP K "moment_of" "moment_of" s_moment_of a_moment_of fd_moment_of
  b_moment_of : Binds K fd_moment_of ["plan", "number"] []
  g_moment_of : mg "moment_of" = some (.ref a_moment_of)
  a_operation_count : Addr
  fd_operation_count : FuncData
  F_operation_count : FnP K "operation_count" "operation_count" s_operation_count a_operation_count fd_operation_count
  b_operation_count : Binds K fd_operation_count ["length", "slots"] []
  g_operation_count : mg "operation_count" = some (.ref a_operation_count)
  a_operation_at : Addr
  fd_operation_at : FuncData
  F_operation_at : FnP K "operation_at" "operation_at" s_operation_at a_operation_at fd_operation_at
  b_operation_at : Binds K fd_operation_at ["length", "slots", "number"] []
  g_operation_at : mg "operation_at" = some (.ref a_operation_at)
  a_moment : Addr
  fd_moment : FuncData
  F_moment : FnP K "moment" "moment" s_moment a_moment fd_moment
  b_moment : Binds K fd_moment ["length", "slots", "number"] []
  g_moment : mg "moment" = some (.ref a_moment)
  a_back_at : Addr
  fd_back_at : FuncData
  F_back_at : FnP K "back_at" "back_at" s_back_at a_back_at fd_back_at
  b_back_at : Binds K fd_back_at ["length", "slots", "state"] []
  g_back_at : mg "back_at" = some (.ref a_back_at)
  a_goes_of : Addr
  fd_goes_of : FuncData
  F_goes_of : FnP K "goes_of" "goes_of" s_goes_of a_goes_of fd_goes_of
  b_goes_of : Binds K fd_goes_of ["plan", "step"] []
  g_goes_of : mg "goes_of" = some (.ref a_goes_of)
  a_asked_goes : Addr
  fd_asked_goes : FuncData
  F_asked_goes : FnP K "asked_goes" "asked_goes" s_asked_goes a_asked_goes fd_asked_goes
  b_asked_goes : Binds K fd_asked_goes ["length", "slots", "step"] []
  g_asked_goes : mg "asked_goes" = some (.ref a_asked_goes)
  a_times_done : Addr
  fd_times_done : FuncData
  F_times_done : FnP K "times_done" "times_done" s_times_done a_times_done fd_times_done
  b_times_done : Binds K fd_times_done ["length", "slots", "step"] []
  g_times_done : mg "times_done" = some (.ref a_times_done)
  a_go_at : Addr
  fd_go_at : FuncData
  F_go_at : FnP K "go_at" "go_at" s_go_at a_go_at fd_go_at
  b_go_at : Binds K fd_go_at ["length", "slots", "step", "number"] []
  g_go_at : mg "go_at" = some (.ref a_go_at)
  a_most_repeated : Addr
  fd_most_repeated : FuncData
  F_most_repeated : FnP K "most_repeated" "most_repeated" s_most_repeated a_most_repeated fd_most_repeated
  b_most_repeated : Binds K fd_most_repeated ["length", "slots"] []
  g_most_repeated : mg "most_repeated" = some (.ref a_most_repeated)
  a_steps_with : Addr
  fd_steps_with : FuncData
  F_steps_with : FnP K "steps_with" "steps_with" s_steps_with a_steps_with fd_steps_with
  b_steps_with : Binds K fd_steps_with ["length", "slots", "rounds"] []
  g_steps_with : mg "steps_with" = some (.ref a_steps_with)
  a_least_of : Addr
  fd_least_of : FuncData
  F_least_of : FnP K "least_of" "least_of" s_least_of a_least_of fd_least_of
  b_least_of : Binds K fd_least_of ["length", "slots"] []
  g_least_of : mg "least_of" = some (.ref a_least_of)
  a_least_steps : Addr
  fd_least_steps : FuncData
  F_least_steps : FnP K "least_steps" "least_steps" s_least_steps a_least_steps fd_least_steps
  b_least_steps : Binds K fd_least_steps ["length", "slots"] []
  g_least_steps : mg "least_steps" = some (.ref a_least_steps)
  a_step_times : Addr
  fd_step_times : FuncData
  F_step_times : FnP K "step_times" "step_times" s_step_times a_step_times fd_step_times
  b_step_times : Binds K fd_step_times ["length", "slots"] []
  g_step_times : mg "step_times" = some (.ref a_step_times)
  a_L_bag : Addr
  fd_L_bag : FuncData
  F_L_bag : FnP K "_law_bag" "_law_bag" s_L_bag a_L_bag fd_L_bag
  b_L_bag : Binds K fd_L_bag ["_law_cell"] []
  g_L_bag : mg "_law_bag" = some (.ref a_L_bag)
  a_L_pick : Addr
  fd_L_pick : FuncData
  F_L_pick : FnP K "_law_pick" "_law_pick" s_L_pick a_L_pick fd_L_pick
  b_L_pick : Binds K fd_L_pick ["_law_bag_here", "_law_many"] []
  g_L_pick : mg "_law_pick" = some (.ref a_L_pick)
  a_L_reach : Addr
  fd_L_reach : FuncData
  F_L_reach : FnP K "_law_reach" "_law_reach" s_L_reach a_L_reach fd_L_reach
  b_L_reach : Binds K fd_L_reach ["_law_slots", "_law_rounds_here"] []
  g_L_reach : mg "_law_reach" = some (.ref a_L_reach)
  a_L_rounds : Addr
  fd_L_rounds : FuncData
  F_L_rounds : FnP K "_law_rounds" "_law_rounds" s_L_rounds a_L_rounds fd_L_rounds
  b_L_rounds : Binds K fd_L_rounds ["_law_length", "_law_slots"] []
  g_L_rounds : mg "_law_rounds" = some (.ref a_L_rounds)
  a_L_least : Addr
  fd_L_least : FuncData
  F_L_least : FnP K "_law_least" "_law_least" s_L_least a_L_least fd_L_least
  b_L_least : Binds K fd_L_least ["_law_length", "_law_slots"] []
  g_L_least : mg "_law_least" = some (.ref a_L_least)
  a_L_deep : Addr
  fd_L_deep : FuncData
  F_L_deep : FnP K "_law_deep" "_law_deep" s_L_deep a_L_deep fd_L_deep
  b_L_deep : Binds K fd_L_deep ["_law_bag_here"] []
  g_L_deep : mg "_law_deep" = some (.ref a_L_deep)
  a_L_step_right : Addr
  fd_L_step_right : FuncData
  F_L_step_right : FnP K "_law_step_right" "_law_step_right" s_L_step_right a_L_step_right fd_L_step_right
  b_L_step_right : Binds K fd_L_step_right ["_law_bag_here", "_law_length", "_law_slots"] []
  g_L_step_right : mg "_law_step_right" = some (.ref a_L_step_right)
  a_L_great_right : Addr
  fd_L_great_right : FuncData
  F_L_great_right : FnP K "_law_great_right" "_law_great_right" s_L_great_right a_L_great_right fd_L_great_right
  b_L_great_right : Binds K fd_L_great_right ["_law_bag_here"] []
  g_L_great_right : mg "_law_great_right" = some (.ref a_L_great_right)
  a_L_small_right : Addr
  fd_L_small_right : FuncData
  F_L_small_right : FnP K "_law_small_right" "_law_small_right" s_L_small_right a_L_small_right fd_L_small_right
  b_L_small_right : Binds K fd_L_small_right ["_law_bag_here"] []
  g_L_small_right : mg "_law_small_right" = some (.ref a_L_small_right)
  a_law : Addr
  fd_law : FuncData
  F_law : FnP K "law" "law" s_law a_law fd_law
  b_law : Binds K fd_law ["_law_script"] []
  g_law : mg "law" = some (.ref a_law)
  n_isinstance : mg "isinstance" = none
  n_int : mg "int" = none
  n_bool : mg "bool" = none
  n_range : mg "range" = none
  n_min : mg "min" = none
  n_divmod : mg "divmod" = none
  n_list : mg "list" = none
  n_sum : mg "sum" = none
  n_max : mg "max" = none
  n_sorted : mg "sorted" = none
  n_set : mg "set" = none
  n_zip : mg "zip" = none
  n_len : mg "len" = none
  t_MOST_LENGTH : Tok
  c_MOST_LENGTH : mg "MOST_LENGTH" = some (.int 1000000000000000000000000000000 t_MOST_LENGTH)
  t_MOST_SLOTS : Tok
  c_MOST_SLOTS : mg "MOST_SLOTS" = some (.int 100 t_MOST_SLOTS)
  t_MOST_ROUNDS : Tok
  c_MOST_ROUNDS : mg "MOST_ROUNDS" = some (.int 1000 t_MOST_ROUNDS)
  er : ErrI K mg [4, 5, 7, 8, 10, 11, 12, 17]
  sy : (K.lookup sysModules).isSome = true
  c_Moment : Cls K (He.ga K "Moment")
  g_Moment : mg "Moment" = some (.ref (He.ga K "Moment"))
  n_Moment_own_hand : NoAttr K (He.ga K "Moment") "own_hand"
  n_Moment_own_kept : NoAttr K (He.ga K "Moment") "own_kept"
  n_Moment_own_steps : NoAttr K (He.ga K "Moment") "own_steps"
  n_Moment_own_backs : NoAttr K (He.ga K "Moment") "own_backs"
  k_Moment : Mk K (He.ga K "Moment") a_Moment___init__
  m_Moment_go : Meth K (He.ga K "Moment") "go" a_Moment_go
  m_Moment_keep : Meth K (He.ga K "Moment") "keep" a_Moment_keep
  m_Moment_take : Meth K (He.ga K "Moment") "take" a_Moment_take
  m_Moment_free_last : Meth K (He.ga K "Moment") "free_last" a_Moment_free_last
  m_Moment_pass_part : Meth K (He.ga K "Moment") "pass_part" a_Moment_pass_part
  m_Moment_pass_row : Meth K (He.ga K "Moment") "pass_row" a_Moment_pass_row
  m_Moment_told : Meth K (He.ga K "Moment") "told" a_Moment_told
  i_4 : InitF K (eC K 4) a_TooLarge___init__ "limit"
  i_5 : InitF K (eC K 5) a_TooDeep___init__ "rounds"
theorem scal_ii {i j : Int} : scal (.int i) (.int j) = true := rfl
theorem scal_bb {i j : Bool} : scal (.bl i) (.bl j) = true := rfl
theorem scal_ss {i j : Str} : scal (.str i) (.str j) = true := rfl
theorem scal_nn : scal .non .non = true := rfl
theorem scal_ni {j : Int} : scal .non (.int j) = true := rfl
theorem scal_in {j : Int} : scal (.int j) .non = true := rfl
theorem scal_ns {j : Str} : scal .non (.str j) = true := rfl
theorem scal_sn {j : Str} : scal (.str j) .non = true := rfl
theorem scal_nb {j : Bool} : scal .non (.bl j) = true := rfl
theorem scal_bn {j : Bool} : scal (.bl j) .non = true := rfl
theorem cxOf_K {C : CXT} {P : Program} {w : World} {K : PySem.W.Frag} {mg : Str → Option Value} {base : Heap} {N : List Str} {q : Str} {sc : Scope} {f : Addr} {cd : Value} {A : Around} {o : List Env} {s : Shared} {H : Hp} {E : XK} : (cxOf C P w K mg base N q sc f cd A o s H E).K = K := rfl
local macro_rules | `(tactic| walk_at "rd") => `(tactic| simp only [L2.start, List.map_cons, List.map_nil, List.length_cons, List.length_nil, Nat.reduceAdd, Nat.reduceSub, Nat.zero_add, List.replicate, List.cons_append, List.nil_append,
  cxOf_K, tSeq, tAsg, gName, tVar, tC, tOp, tUn, rI, rI0, rU, tCB, tCons, tNil, tIfS, StX.tStar, sDPut, tDGet, tLstRg, tTupRg, tRg1, tRg2, tTest, tB, tAnd, tOr, tNot, tAndV, tOrV, tNotV, tIf, tRet, tRetN, tDrop, tNext, tBreak, tCont, tNever, tPar, tPar3, tChain3, decide_false, decide_true, rMin3, rMax3, tAug, ipI, tChain, gTup, gTupT, tBM, tBM0, rAppend, tyV_list, rMin, rMax, gCons, gNil, tTup, tLst, tCall, tCallS, WE, tTryV, wAsV, tMkV, tMkI, tMatch, tCase, tMeth, tMake, tProp, tFld, sFld, sFldAug, tRemX, L2.rAdd, L2.rSub, gSub,
  rSetL, rIxL, rIxT, rIxLT, rIxTT, CPowC, sizeLine_eq, Nat.reduceLeDiff, gt_iff_lt, ge_iff_le, Int.reduceMod, Int.reduceDiv, atI_0, atI_1, atI_2, atI_3, atI_4, atI_5, ixN_30, ixN_31, ixN_32, upd_same, HO.lst.injEq, HO.tup.injEq, HO.ins.injEq, Int.reduceLE, Int.reduceLT, rEq, rNe, sp0, sp1, sp2, sp3, sp4, sp5, tNoPart, tPart, tSl, scal_ii, scal_bb, scal_ss, scal_nn, scal_ni, scal_in, scal_ns, scal_sn, scal_nb, scal_bn, rRep, rCat, rReprD, rReprI, rLenQ, rSlL, rSlT, rEqF, rNeF,
  List.append_nil, List.getElem?_cons_zero, List.getElem?_cons_succ, List.set_cons_zero, List.set_cons_succ, List.set_nil,
  Option.some.injEq, V.int.injEq, V.bl.injEq, V.str.injEq, V.ref.injEq, V.ty.injEq, List.cons.injEq, and_true, true_and, exists_eq_left', exists_eq_left, exists_eq_right, exists_and_left, eq_self, exists_eq, exists_eq', and_assoc,
  decide_eq_true_eq, Bool.not_eq_true', Bool.not_eq_true, decide_eq_false_iff_not, Bool.false_eq_true, if_true, if_false, ite_true, ite_false, Bool.not_true, Bool.not_false, not_true_eq_false, not_false_eq_true, Bool.true_eq_false, ↓reduceIte,
  Int.reduceToNat, Int.reducePow, Int.reduceAdd, Int.reduceMul, Int.reduceNeg, Int.reduceSub, reduceCtorEq, false_and, and_false, exists_false, false_or, or_false])
local macro_rules | `(tactic| walk_at "ar") => `(tactic| first | omega | (have hB := big_200; first | omega | (unfold CMulB; omega) | (unfold CDivB; omega) | (unfold CPowW; omega)) | decide)
theorem nox_K {X : Cx} : X.nox.K = X.K := rfl
local macro_rules | `(tactic| walk_at "rd") => `(tactic| simp only [L2.start, List.map_cons, List.map_nil, List.length_cons, List.length_nil, Nat.reduceAdd, Nat.reduceSub, Nat.zero_add, List.replicate, List.cons_append, List.nil_append,
  cxOf_K, nox_K, tMethD, tMethDS, tPropD, rEqI, tRevL, tSeq, tAsg, gName, tVar, tC, tOp, tUn, rI, rI0, rU, tCB, tCons, tNil, tIfS, StX.tStar, sDPut, tDGet, tLstRg, tTupRg, tRg1, tRg2, tTest, tB, tAnd, tOr, tNot, tAndV, tOrV, tNotV, tIf, tRet, tRetN, tDrop, tNext, tBreak, tCont, tNever, tPar, tPar3, tChain3, decide_false, decide_true, rMin3, rMax3, tAug, ipI, tChain, gTup, gTupT, tBM, tBM0, rAppend, tyV_list, rMin, rMax, gCons, gNil, tTup, tLst, tCall, tCallS, WE, tTryV, wAsV, tMkV, tMkI, tMatch, tCase, tMeth, tMake, tProp, tFld, sFld, sFldAug, tRemX, L2.rAdd, L2.rSub, gSub,
  rSetL, rIxL, rIxT, rIxLT, rIxTT, CPowC, sizeLine_eq, Nat.reduceLeDiff, gt_iff_lt, ge_iff_le, Int.reduceMod, Int.reduceDiv, atI_0, atI_1, atI_2, atI_3, atI_4, atI_5, ixN_30, ixN_31, ixN_32, upd_same, HO.lst.injEq, HO.tup.injEq, HO.ins.injEq, Int.reduceLE, Int.reduceLT, rEq, rNe, sp0, sp1, sp2, sp3, sp4, sp5, tNoPart, tPart, tSl, scal_ii, scal_bb, scal_ss, scal_nn, scal_ni, scal_in, scal_ns, scal_sn, scal_nb, scal_bn, rRep, rCat, rReprD, rReprI, rLenQ, rSlL, rSlT, rEqF, rNeF,
  List.append_nil, List.getElem?_cons_zero, List.getElem?_cons_succ, List.set_cons_zero, List.set_cons_succ, List.set_nil,
  Option.some.injEq, V.int.injEq, V.bl.injEq, V.str.injEq, V.ref.injEq, V.ty.injEq, List.cons.injEq, and_true, true_and, exists_eq_left', exists_eq_left, exists_eq_right, exists_and_left, eq_self, exists_eq, exists_eq', and_assoc,
  decide_eq_true_eq, Bool.not_eq_true', Bool.not_eq_true, decide_eq_false_iff_not, Bool.false_eq_true, if_true, if_false, ite_true, ite_false, Bool.not_true, Bool.not_false, not_true_eq_false, not_false_eq_true, Bool.true_eq_false, ↓reduceIte,
  Int.reduceToNat, Int.reducePow, Int.reduceAdd, Int.reduceMul, Int.reduceNeg, Int.reduceSub, reduceCtorEq, false_and, and_false, exists_false, false_or, or_false])
/-! ### the plan as a list, and the goes that cut a step (k22) -/
def rowL (n b : Int) : Nat → List Op
  | 0 => [.back]
  | k + 1 => .go (k + 1 : Nat) :: .back :: .take b :: rowL n b k
def opsL (n s b : Int) : List Op :=
  if h : 2 ≤ n ∧ 2 ≤ s then
    .go (hiz n s) :: ((if kp n s = 1 then [.keep] else []) ++ opsL (n - hiz n s) (s - 1) (b + hiz n s) ++ (if kp n s = 1 then [.free (b + hiz n s)] else []) ++ .take b :: opsL (hiz n s) s b)
  else rowL n b (n - 1).toNat
termination_by n.toNat
decreasing_by all_goals (have := loz_range h.1 h.2; omega)
theorem opsL_row {n s b : Int} (h : n < 2 ∨ s < 2) : opsL n s b = rowL n b (n - 1).toNat := by rw [opsL, dif_neg (by omega)]
theorem opsL_two {n s b : Int} (hn : 2 ≤ n) (hs : 2 ≤ s) : opsL n s b = .go (hiz n s) :: ((if kp n s = 1 then [.keep] else []) ++ opsL (n - hiz n s) (s - 1) (b + hiz n s) ++ (if kp n s = 1 then [.free (b + hiz n s)] else []) ++ .take b :: opsL (hiz n s) s b) := by
  rw [opsL, dif_pos ⟨hn, hs⟩]
theorem rowL_len (n b : Int) : ∀ k : Nat, ((rowL n b k).length : Int) = 3 * k + 1
  | 0 => rfl
  | k + 1 => by
    have := rowL_len n b k
    show (((rowL n b k).length + 1 + 1 + 1 : Nat) : Int) = _
    omega
theorem opsL_len : ∀ n s : Int, 1 ≤ n → 1 ≤ s → ∀ b, ((opsL n s b).length : Int) = opsN n s := by
  refine plan_ind (fun n s hn hs h b => ?_) fun n s hn hs ih1 ih2 b => ?_
  · rw [opsL_row h, rowL_len, opsN_row h]
    omega
  · have a := ih1 (b + hiz n s)
    have c := ih2 b
    have k01 := kp_01 n s
    rw [opsL_two hn hs, opsN_kp hn hs]
    simp only [List.length_cons, List.length_append]
    rcases k01 with k | k
    · rw [if_neg (by omega), if_neg (by omega), k]
      simp only [List.length_nil]
      omega
    · rw [if_pos k, if_pos k, k]
      simp only [List.length_cons, List.length_nil]
      omega
/-- goes: place, from, to; the hand before -/
def goesP : List Op → Int → Int → List (Int × Int × Int)
  | [], _, _ => []
  | .go k :: r, c, d => (c, d, d + k) :: goesP r (c + 1) (d + k)
  | .take m :: r, c, _ => goesP r (c + 1) m
  | _ :: r, c, d => goesP r (c + 1) d
def handP : List Op → Int → Int
  | [], d => d
  | .go k :: r, d => handP r (d + k)
  | .take m :: r, _ => handP r m
  | _ :: r, d => handP r d
theorem goesP_app : ∀ (l r : List Op) (c d : Int), goesP (l ++ r) c d = goesP l c d ++ goesP r (c + l.length) (handP l d)
  | [], r, c, d => by show goesP r c d = [] ++ goesP r (c + 0) d; rw [Int.add_zero]; rfl
  | o :: l, r, c, d => by
    have e : c + ((o :: l).length : Int) = c + 1 + (l.length : Int) := by rw [List.length_cons]; omega
    rw [e]
    cases o with
    | go k => exact congrArg _ (goesP_app l r (c + 1) (d + k))
    | take m => exact goesP_app l r (c + 1) m
    | keep => exact goesP_app l r (c + 1) d
    | free m => exact goesP_app l r (c + 1) d
    | back => exact goesP_app l r (c + 1) d
/-- the places of the goes that cut the step x -/
def cutP (x : Int) (g : List (Int × Int × Int)) : List Int := (g.filter fun g => decide (g.2.1 ≤ x ∧ x < g.2.2)).map fun g => g.1
def runG (g : Int × Int × Int) : List Int := (List.range g.2.1.toNat).map fun (j : Nat) => g.1 + (j : Int) * g.2.2
theorem cutP_app (x : Int) (a b : List (Int × Int × Int)) : cutP x (a ++ b) = cutP x a ++ cutP x b := by
  unfold cutP
  rw [List.filter_append, List.map_append]
theorem cutP_nil (x : Int) : cutP x [] = [] := rfl
theorem cutP_yes {x c d e : Int} {g : List (Int × Int × Int)} (h : d ≤ x ∧ x < e) : cutP x ((c, d, e) :: g) = c :: cutP x g := by
  unfold cutP
  rw [List.filter_cons_of_pos (by exact decide_eq_true h)]
  rfl
theorem cutP_no {x c d e : Int} {g : List (Int × Int × Int)} (h : ¬ (d ≤ x ∧ x < e)) : cutP x ((c, d, e) :: g) = cutP x g := by
  unfold cutP
  rw [List.filter_cons_of_neg (by rw [decide_eq_false h]; exact Bool.false_ne_true)]
theorem goes_rowL (n b c : Int) (k : Nat) : goesP (rowL n b (k + 1)) c b = (c, b, b + ((k + 1 : Nat) : Int)) :: goesP (rowL n b k) (c + 1 + 1 + 1) b := rfl
theorem row_none {n b x : Int} (h : x < b) : ∀ (k : Nat) (c : Int), cutP x (goesP (rowL n b k) c b) = []
  | 0, c => rfl
  | k + 1, c => by rw [goes_rowL, cutP_no (by omega), row_none h k]
theorem row_cut {n b x : Int} (h : b ≤ x) : ∀ (k : Nat) (c : Int), cutP x (goesP (rowL n b k) c b) = (List.range (k - (x - b).toNat)).map fun (j : Nat) => c + (j : Int) * 3
  | 0, c => by rw [Nat.zero_sub]; rfl
  | k + 1, c => by
    rw [goes_rowL]
    by_cases q : (x - b).toNat ≤ k
    · rw [cutP_yes (by omega), row_cut h k, show k + 1 - (x - b).toNat = (k - (x - b).toNat) + 1 by omega, List.range_succ_eq_map, List.map_cons, List.map_map]
      congr 1
      · omega
      · refine List.map_congr_left fun j _ => ?_
        show c + 1 + 1 + 1 + (j : Int) * 3 = c + ((j + 1 : Nat) : Int) * 3
        omega
    · rw [cutP_no (by omega), row_cut h k, show k + 1 - (x - b).toNat = 0 by omega, show k - (x - b).toNat = 0 by omega]
      rfl
/-- the goes of a plan of two parts -/
theorem goes_two {n s b c : Int} (hn : 2 ≤ n) (hs : 2 ≤ s) : goesP (opsL n s b) c b = (c, b, b + hiz n s) :: (goesP (opsL (n - hiz n s) (s - 1) (b + hiz n s)) (c + (1 + kp n s)) (b + hiz n s) ++ goesP (opsL (hiz n s) s b) (c + (2 + 2 * kp n s + opsN (n - hiz n s) (s - 1))) b) := by
  obtain ⟨l1, l2, l3⟩ := loz_range hn hs
  have len := opsL_len (n - hiz n s) (s - 1) (by omega) (by omega) (b + hiz n s)
  rw [opsL_two hn hs]
  show (c, b, b + hiz n s) :: goesP (_ ++ _) (c + 1) (b + hiz n s) = _
  rw [goesP_app, goesP_app, goesP_app]
  congr 1
  rcases kp_01 n s with k | k
  · rw [if_neg (by omega), if_neg (by omega), k]
    show ([] ++ goesP _ (c + 1 + 0) (b + hiz n s)) ++ [] ++ goesP _ (_ + 1) b = _
    rw [List.append_nil, List.nil_append]
    congr 2
    · omega
    · simp only [List.length_append, List.length_nil]
      omega
  · rw [if_pos k, if_pos k, k]
    show ([] ++ goesP _ (c + 1 + 1) (b + hiz n s)) ++ [] ++ goesP _ (_ + 1) b = _
    rw [List.append_nil, List.nil_append]
    congr 2
    · omega
    · simp only [List.length_append, List.length_cons, List.length_nil]
      omega
theorem cut_none : ∀ n s : Int, 1 ≤ n → 1 ≤ s → ∀ b c x, (x < b ∨ b + n - 1 ≤ x) → cutP x (goesP (opsL n s b) c b) = [] := by
  refine plan_ind (fun n s hn hs h b c x hx => ?_) fun n s hn hs ih1 ih2 b c x hx => ?_
  · rw [opsL_row h]
    by_cases q : x < b
    · exact row_none q _ _
    · rw [row_cut (by omega), show (n - 1).toNat - (x - b).toNat = 0 by omega]
      rfl
  · obtain ⟨l1, l2, l3⟩ := loz_range hn hs
    rw [goes_two hn hs, cutP_no (by omega), cutP_app, ih1 _ _ _ (by omega), ih2 _ _ _ (by omega)]
    rfl
theorem cut_plan : ∀ n s : Int, 1 ≤ n → 1 ≤ s → ∀ b c x, b ≤ x → x < b + n - 1 → cutP x (goesP (opsL n s b) c b) = (goesL n s (x - b) c).flatMap runG := by
  refine plan_ind (fun n s hn hs h b c x h0 h1 => ?_) fun n s hn hs ih1 ih2 b c x h0 h1 => ?_
  · rw [opsL_row h, row_cut h0, goesL_row h]
    show _ = runG (c, n - 1 - (x - b), 3) ++ []
    rw [List.append_nil]
    unfold runG
    rw [show (n - 1).toNat - (x - b).toNat = (n - 1 - (x - b)).toNat by omega]
  · obtain ⟨l1, l2, l3⟩ := loz_range hn hs
    rw [goes_two hn hs]
    by_cases q : hiz n s ≤ x - b
    · rw [cutP_no (by omega), cutP_app, ih1 _ _ _ (by omega) (by omega), cut_none _ _ (by omega) (by omega) _ _ _ (by omega), List.append_nil, goesL_two hn hs, if_pos q]
      congr 2
      omega
    · rw [cutP_yes (by omega), cutP_app, cut_none _ _ (by omega) (by omega) _ _ _ (by omega), List.nil_append, goesL_two hn hs, if_neg q, List.flatMap_cons]
      have e : runG (c, 1, 0) = [c] := by
        unfold runG
        show [c + ((0 : Nat) : Int) * 0] = [c]
        rw [Int.mul_zero, Int.add_zero]
      rw [e]
      show c :: _ = c :: _
      congr 1
      by_cases z : x - b = hiz n s - 1
      · rw [if_pos z, cut_none _ _ (by omega) (by omega) _ _ _ (by omega)]
        rfl
      · rw [if_neg z, ih2 _ _ _ (by omega) (by omega)]
        rfl
/-- the k-th of the runs -/
theorem pick_flat : ∀ (gs : List (Int × Int × Int)), (∀ g ∈ gs, 0 ≤ g.2.1) → ∀ k : Nat, pickG gs (k : Int) = (gs.flatMap runG)[k]?
  | [], _, k => rfl
  | g :: gs, h, k => by
    have h0 := h g (List.mem_cons_self ..)
    have hl : (runG g).length = g.2.1.toNat := by unfold runG; rw [List.length_map, List.length_range]
    unfold pickG
    rw [List.flatMap_cons]
    by_cases q : (k : Int) < g.2.1
    · rw [if_pos q, List.getElem?_append_left (by omega)]
      unfold runG
      rw [List.getElem?_map, List.getElem?_range (by omega)]
      rfl
    · rw [if_neg q, List.getElem?_append_right (by omega), hl, show (k : Int) - g.2.1 = ((k - g.2.1.toNat : Nat) : Int) by omega]
      exact pick_flat gs (fun g hg => h g (List.mem_cons_of_mem _ hg)) _
theorem goes_pos : ∀ n s : Int, 1 ≤ n → 1 ≤ s → ∀ x c, x ≤ n - 1 → ∀ g ∈ goesL n s x c, 0 ≤ g.2.1 := by
  refine plan_ind (fun n s hn hs h x c hx g hg => ?_) fun n s hn hs ih1 ih2 x c hx g hg => ?_
  · rw [goesL_row h] at hg
    rw [List.mem_singleton.mp hg]
    show 0 ≤ n - 1 - x
    omega
  · rw [goesL_two hn hs] at hg
    split at hg
    · exact ih1 _ _ (by omega) g hg
    · rcases List.mem_cons.mp hg with rfl | hg
      · show (0 : Int) ≤ 1
        decide
      · split at hg
        · cases hg
        · exact ih2 _ _ (by omega) g hg
/-- what the law's own list tells, and what go_at and times_done tell -/
theorem spots_at {n s x : Int} (hn : 1 ≤ n) (hs : 1 ≤ s) (h0 : 0 ≤ x) (h1 : x < n - 1) (k : Nat) : goAt n s x (k : Int) = (cutP x (goesP (opsL n s 0) 0 0))[k]? := by
  have := cut_plan n s hn hs 0 0 x h0 (by omega)
  rw [Int.sub_zero] at this
  rw [this]
  exact pick_flat _ (goes_pos n s hn hs x 0 (by omega)) k
theorem flat_len : ∀ (gs : List (Int × Int × Int)), (∀ g ∈ gs, 0 ≤ g.2.1) → ((gs.flatMap runG).length : Int) = (gs.map fun g => g.2.1).sum
  | [], _ => rfl
  | g :: gs, h => by
    have h0 := h g (List.mem_cons_self ..)
    have hl : (runG g).length = g.2.1.toNat := by unfold runG; rw [List.length_map, List.length_range]
    have ih := flat_len gs fun g hg => h g (List.mem_cons_of_mem _ hg)
    rw [List.flatMap_cons, List.length_append, List.map_cons, List.sum_cons, hl, ← ih]
    omega
theorem spots_len {n s x : Int} (hn : 1 ≤ n) (hs : 1 ≤ s) (h0 : 0 ≤ x) (h1 : x < n - 1) : ((cutP x (goesP (opsL n s 0) 0 0)).length : Int) = timesD n s x := by
  have := cut_plan n s hn hs 0 0 x h0 (by omega)
  rw [Int.sub_zero] at this
  rw [this, flat_len _ (goes_pos n s hn hs x 0 (by omega)), goes_sum n s hn hs]
/-- where the most goes are -/
theorem most_is : ∀ n s : Int, 1 ≤ n → 1 ≤ s → 2 ≤ n → ∀ b, 0 ≤ mostAt n s b - b ∧ mostAt n s b - b < n - 1 ∧ timesD n s (mostAt n s b - b) = rho n s ∧ ∀ x, 0 ≤ x → x < mostAt n s b - b → timesD n s x < rho n s := by
  refine plan_ind (fun n s hn hs h h2 b => ?_) fun n s hn hs ih1 ih2 _ b => ?_
  · have e : s = 1 := by omega
    subst e
    rw [mostAt_row h, Int.sub_self, timesD_row h, rho_slot1 hn]
    exact ⟨Int.le_refl _, by omega, by omega, fun x h0 h1 => by omega⟩
  · obtain ⟨l1, l2, l3⟩ := loz_range hn hs
    obtain ⟨r1, r2, r3⟩ := rounds_max hn hs
    have rp := rho_pos (n := n) (s := s) hn (by omega)
    have ra : 2 ≤ hiz n s → 1 ≤ rho (hiz n s) s := fun h => rho_pos h (by omega)
    have ta := times_in (hiz n s) s (by omega) (by omega)
    have lo : ∀ x, 0 ≤ x → x < hiz n s → ¬ (hiz n s > 1 ∧ rho (hiz n s) s = rho n s - 1) → ¬ (rho n s = 1 ∧ hiz n s = 1) → timesD n s x < rho n s := fun x x0 x1 c1 c2 => by
      rw [timesD_two hn hs, if_neg (by omega)]
      split
      · by_cases q : 2 ≤ hiz n s
        · have := ra q
          omega
        · omega
      · have := (ta x x0 (by omega)).2
        omega
    rw [mostAt_two hn hs]
    by_cases c1 : hiz n s > 1 ∧ rho (hiz n s) s = rho n s - 1
    · rw [if_pos c1]
      obtain ⟨m0, m1, m2, m3⟩ := ih2 (by omega) b
      refine ⟨m0, by omega, ?_, fun x x0 x1 => ?_⟩
      · rw [timesD_two hn hs, if_neg (by omega), if_neg (by omega), m2]
        omega
      · rw [timesD_two hn hs, if_neg (by omega), if_neg (by omega)]
        have := m3 x x0 x1
        omega
    · rw [if_neg c1]
      by_cases c2 : rho n s = 1 ∧ hiz n s = 1
      · rw [if_pos c2, Int.sub_self]
        refine ⟨Int.le_refl _, by omega, ?_, fun x x0 x1 => by omega⟩
        rw [timesD_two hn hs, if_neg (by omega), if_pos (by omega)]
        omega
      · rw [if_neg c2]
        have rr := most_rest hn hs c1 c2
        have n2 : 2 ≤ n - hiz n s := Classical.byContradiction fun q => by
          rw [show n - hiz n s = 1 by omega, rho_one (by omega)] at rr
          omega
        obtain ⟨m0, m1, m2, m3⟩ := ih1 n2 (b + hiz n s)
        refine ⟨by omega, by omega, ?_, fun x x0 x1 => ?_⟩
        · rw [timesD_two hn hs, if_pos (by omega), show mostAt (n - hiz n s) (s - 1) (b + hiz n s) - b - hiz n s = mostAt (n - hiz n s) (s - 1) (b + hiz n s) - (b + hiz n s) by omega, m2, rr]
        · by_cases q : x < hiz n s
          · exact lo x x0 q c1 c2
          · rw [timesD_two hn hs, if_pos (by omega), ← rr]
            exact m3 _ (by omega) (by omega)
/-! the plan as a list, by numbers -/
theorem rowL_at (n b : Int) : ∀ (k i : Nat), i < 3 * k + 1 → (rowL n b k)[i]? = some (rowOp b ((k : Int) + 1) (i : Int))
  | 0, i, h => by
    have : i = 0 := by omega
    subst this
    show some Op.back = _
    unfold rowOp
    rw [if_pos (.inl (by omega))]
  | k + 1, 0, _ => by
    show some (Op.go _) = _
    unfold rowOp
    rw [if_neg (by omega), if_pos (by decide)]
    congr 2
    omega
  | k + 1, 1, _ => by
    show some Op.back = _
    unfold rowOp
    rw [if_pos (.inr (by decide))]
  | k + 1, 2, _ => by
    show some (Op.take b) = _
    unfold rowOp
    rw [if_neg (by omega), if_neg (by decide)]
  | k + 1, i + 3, h => by
    have ih := rowL_at n b k i (by omega)
    show (rowL n b k)[i]? = _
    rw [ih]
    unfold rowOp
    rw [show ((i + 3 : Nat) : Int) / 3 = (i : Int) / 3 + 1 by omega, show ((i + 3 : Nat) : Int) % 3 = (i : Int) % 3 by omega]
    congr 1
    have ek : ((k + 1 : Nat) : Int) = (k : Int) + 1 := by omega
    by_cases h1 : (i : Int) / 3 = (k : Int) + 1 - 1 ∨ (i : Int) % 3 = 1
    · have h1' : (i : Int) / 3 + 1 = ((k + 1 : Nat) : Int) + 1 - 1 ∨ (i : Int) % 3 = 1 := by omega
      rw [if_pos h1, if_pos h1']
    · have h1' : ¬ ((i : Int) / 3 + 1 = ((k + 1 : Nat) : Int) + 1 - 1 ∨ (i : Int) % 3 = 1) := by omega
      rw [if_neg h1, if_neg h1']
      by_cases h2 : (i : Int) % 3 = 0
      · rw [if_pos h2, if_pos h2]
        congr 1
        omega
      · rw [if_neg h2, if_neg h2]
theorem opsL_at : ∀ n s : Int, 1 ≤ n → 1 ≤ s → ∀ (b : Int) (i : Nat), (i : Int) < opsN n s → (opsL n s b)[i]? = some (opAt n s b i) := by
  refine plan_ind (fun n s hn hs h b i hi => ?_) fun n s hn hs ih1 ih2 b i hi => ?_
  · rw [opsN_row h] at hi
    rw [opsL_row h, opAt_row h, rowL_at _ _ _ _ (by omega), show (((n - 1).toNat : Nat) : Int) + 1 = n by omega]
  · obtain ⟨l1, l2, l3⟩ := loz_range hn hs
    have len := opsL_len (n - hiz n s) (s - 1) (by omega) (by omega) (b + hiz n s)
    have ek := opsN_kp hn hs
    have k01 := kp_01 n s
    have og1 := opsN_ge (n - hiz n s) (s - 1) (by omega) (by omega)
    rw [opsL_two hn hs, opAt_two hn hs]
    match i with
    | 0 => rfl
    | i + 1 =>
      rw [List.getElem?_cons_succ, if_neg (show ¬ (((i + 1 : Nat) : Int) = 0) by omega)]
      rcases k01 with k | k
      · have hk : ¬ kp n s = 1 := by omega
        rw [if_neg hk, if_neg hk, List.nil_append, List.append_nil, if_neg (show ¬ (((i + 1 : Nat) : Int) = 1 ∧ kp n s = 1) by omega)]
        by_cases h1 : i < (opsL (n - hiz n s) (s - 1) (b + hiz n s)).length
        · rw [List.getElem?_append_left h1, ih1 _ _ (by omega), if_pos (show ((i + 1 : Nat) : Int) - (1 + kp n s) < opsN (n - hiz n s) (s - 1) by omega)]
          congr 2
          omega
        · rw [List.getElem?_append_right (by omega), if_neg (show ¬ (((i + 1 : Nat) : Int) - (1 + kp n s) < opsN (n - hiz n s) (s - 1)) by omega), if_neg (show ¬ (((i + 1 : Nat) : Int) - (1 + kp n s) = opsN (n - hiz n s) (s - 1) ∧ kp n s = 1) by omega)]
          by_cases h2 : i = (opsL (n - hiz n s) (s - 1) (b + hiz n s)).length
          · rw [if_pos (show ((i + 1 : Nat) : Int) - (1 + kp n s) = opsN (n - hiz n s) (s - 1) + kp n s by omega), h2, Nat.sub_self]
            rfl
          · obtain ⟨j, hj⟩ : ∃ j, i - (opsL (n - hiz n s) (s - 1) (b + hiz n s)).length = j + 1 := ⟨i - (opsL (n - hiz n s) (s - 1) (b + hiz n s)).length - 1, by omega⟩
            rw [if_neg (show ¬ (((i + 1 : Nat) : Int) - (1 + kp n s) = opsN (n - hiz n s) (s - 1) + kp n s) by omega), hj, List.getElem?_cons_succ, ih2 _ _ (by omega)]
            congr 2
            omega
      · rw [if_pos k, if_pos k]
        match i with
        | 0 => rw [if_pos ⟨rfl, k⟩]; rfl
        | i + 1 =>
          have ei : (((i + 1 : Nat) + 1 : Nat) : Int) - (1 + kp n s) = (i : Int) := by omega
          rw [if_neg (show ¬ (((i + 1 + 1 : Nat) : Int) = 1 ∧ kp n s = 1) by omega), ei]
          show ((opsL (n - hiz n s) (s - 1) (b + hiz n s) ++ [.free (b + hiz n s)]) ++ .take b :: opsL (hiz n s) s b)[i]? = _
          rw [List.append_assoc]
          by_cases h1 : i < (opsL (n - hiz n s) (s - 1) (b + hiz n s)).length
          · rw [List.getElem?_append_left h1, ih1 _ _ (by omega), if_pos (show (i : Int) < opsN (n - hiz n s) (s - 1) by omega)]
          · rw [List.getElem?_append_right (by omega), if_neg (show ¬ ((i : Int) < opsN (n - hiz n s) (s - 1)) by omega)]
            by_cases h2 : i = (opsL (n - hiz n s) (s - 1) (b + hiz n s)).length
            · rw [if_pos (show (i : Int) = opsN (n - hiz n s) (s - 1) ∧ kp n s = 1 from ⟨by omega, k⟩), h2, Nat.sub_self]
              rfl
            · rw [if_neg (show ¬ ((i : Int) = opsN (n - hiz n s) (s - 1) ∧ kp n s = 1) by omega)]
              by_cases h3 : i = (opsL (n - hiz n s) (s - 1) (b + hiz n s)).length + 1
              · rw [if_pos (show (i : Int) = opsN (n - hiz n s) (s - 1) + kp n s by omega), h3, show (opsL (n - hiz n s) (s - 1) (b + hiz n s)).length + 1 - (opsL (n - hiz n s) (s - 1) (b + hiz n s)).length = 1 by omega]
                rfl
              · obtain ⟨j, hj⟩ : ∃ j, i - (opsL (n - hiz n s) (s - 1) (b + hiz n s)).length = j + 2 := ⟨i - (opsL (n - hiz n s) (s - 1) (b + hiz n s)).length - 2, by omega⟩
                rw [if_neg (show ¬ ((i : Int) = opsN (n - hiz n s) (s - 1) + kp n s) by omega), hj]
                show (opsL (hiz n s) s b)[j]? = _
                rw [ih2 _ _ (by omega)]
                congr 2
                omega
theorem opsL_all {n s : Int} (hn : 1 ≤ n) (hs : 1 ≤ s) (b : Int) : ((List.range (opsL n s b).length).map fun (i : Nat) => opAt n s b (i : Int)) = opsL n s b := by
  have hl := opsL_len n s hn hs b
  refine List.ext_getElem? fun i => ?_
  rw [List.getElem?_map]
  by_cases h : i < (opsL n s b).length
  · rw [List.getElem?_range h, opsL_at n s hn hs b i (by omega)]
    rfl
  · rw [List.getElem?_eq_none (by rw [List.length_range]; omega), List.getElem?_eq_none (by omega)]
    rfl
theorem opsL_num : ∀ n s : Int, 1 ≤ n → 1 ≤ s → ∀ b, 0 ≤ b → ∀ o ∈ opsL n s b, 0 ≤ o.num ∧ o.num ≤ b + n := by
  refine plan_ind (fun n s hn hs h b hb o ho => ?_) fun n s hn hs ih1 ih2 b hb o ho => ?_
  · rw [opsL_row h] at ho
    have go : ∀ k : Nat, (k : Int) ≤ n - 1 → ∀ o ∈ rowL n b k, 0 ≤ o.num ∧ o.num ≤ b + n := by
      intro k
      induction k with
      | zero => intro _ o ho; rw [List.mem_singleton.mp ho]; show 0 ≤ (0 : Int) ∧ (0 : Int) ≤ b + n; omega
      | succ k ih =>
        intro hk o ho
        rcases List.mem_cons.mp ho with rfl | ho
        · show 0 ≤ ((k + 1 : Nat) : Int) ∧ ((k + 1 : Nat) : Int) ≤ b + n; omega
        rcases List.mem_cons.mp ho with rfl | ho
        · show 0 ≤ (0 : Int) ∧ (0 : Int) ≤ b + n; omega
        rcases List.mem_cons.mp ho with rfl | ho
        · show 0 ≤ b ∧ b ≤ b + n; omega
        exact ih (by omega) o ho
    exact go _ (by omega) o ho
  · obtain ⟨l1, l2, l3⟩ := loz_range hn hs
    rw [opsL_two hn hs] at ho
    rcases List.mem_cons.mp ho with rfl | ho
    · show 0 ≤ hiz n s ∧ hiz n s ≤ b + n; omega
    rcases List.mem_append.mp ho with ho | ho
    · rcases List.mem_append.mp ho with ho | ho
      · rcases List.mem_append.mp ho with ho | ho
        · split at ho
          · rw [List.mem_singleton.mp ho]; show 0 ≤ (0 : Int) ∧ (0 : Int) ≤ b + n; omega
          · cases ho
        · have := ih1 _ (by omega) o ho; omega
      · split at ho
        · rw [List.mem_singleton.mp ho]; show 0 ≤ b + hiz n s ∧ b + hiz n s ≤ b + n; omega
        · cases ho
    · rcases List.mem_cons.mp ho with rfl | ho
      · show 0 ≤ b ∧ b ≤ b + n; omega
      · have := ih2 b hb o ho; omega
/-! ### states of sessions and lists -/
structure TSt where
  n : Int
  s : Int
  hand : Int
  kept : List Int
  steps : Int
  backs : Int
def TSt.can (t : TSt) : Op → Bool
  | .go k => decide (t.hand + k < t.n)
  | .keep => decide (t.hand ∉ t.kept) && decide ((t.kept.length : Int) < t.s)
  | .back => decide (t.backs < t.n) && decide (t.hand = t.n - 1 - t.backs)
  | .take m => decide (m ∈ t.kept)
  | .free m => decide (m ∈ t.kept)
def TSt.did (t : TSt) : Op → TSt
  | .go k => { t with hand := t.hand + k, steps := t.steps + k }
  | .keep => { t with kept := t.kept ++ [t.hand] }
  | .back => { t with backs := t.backs + 1 }
  | .take m => { t with hand := m }
  | .free m => { t with kept := t.kept.erase m }
structure MSt where
  hand : Int
  kept : List Int
  steps : Int
  backs : Int
def MSt.go (t : MSt) (b k : Int) : MSt := { t with hand := b + k, steps := t.steps + k }
def MSt.keep (t : MSt) (b : Int) : MSt := { t with kept := t.kept ++ [b] }
def MSt.take (t : MSt) (b : Int) : MSt := { t with hand := b }
def MSt.passP (t : MSt) (b n s : Int) : MSt := { t with hand := b, steps := t.steps + tz n s, backs := t.backs + n }
def MSt.passR (t : MSt) (b n i : Int) : MSt :=
  { t with hand := if i % 3 > 0 then b + (n - 1 - i / 3) else b, steps := t.steps + (i / 3 * (n - 1) - i / 3 * (i / 3 - 1) / 2) + (if i % 3 > 0 then n - 1 - i / 3 else 0), backs := t.backs + (i / 3 + if i % 3 = 2 then 1 else 0) }
/-! ### what a moment is -/
def momAt (n s b i : Int) (t : MSt) : MSt :=
  if i ≤ 0 then t
  else if i = opsN n s then t.passP b n s
  else if h : 2 ≤ n ∧ 2 ≤ s then
    if i - 1 - (if 1 < i then kp n s else 0) ≤ opsN (n - hiz n s) (s - 1) then
      momAt (n - hiz n s) (s - 1) (b + hiz n s) (i - 1 - (if 1 < i then kp n s else 0)) (if 1 < i ∧ kp n s = 1 then (t.go b (hiz n s)).keep (b + hiz n s) else t.go b (hiz n s))
    else if 0 < i - 1 - kp n s - opsN (n - hiz n s) (s - 1) - kp n s then
      momAt (hiz n s) s b (i - 1 - kp n s - opsN (n - hiz n s) (s - 1) - kp n s - 1) (((t.go b (hiz n s)).passP (b + hiz n s) (n - hiz n s) (s - 1)).take b)
    else (t.go b (hiz n s)).passP (b + hiz n s) (n - hiz n s) (s - 1)
  else t.passR b n i
termination_by n.toNat
decreasing_by all_goals (have := loz_range h.1 h.2; omega)
section
variable {n s b i d : Int} {t : MSt}
theorem momAt_0 (h : i ≤ 0) : momAt n s b i t = t := by rw [momAt, if_pos h]
theorem momAt_all (h : 0 < i) (h2 : i = opsN n s) : momAt n s b i t = t.passP b n s := by rw [momAt, if_neg (by omega), if_pos h2]
theorem momAt_row (h : 0 < i) (h2 : i ≠ opsN n s) (h3 : n < 2 ∨ s < 2) : momAt n s b i t = t.passR b n i := by rw [momAt, if_neg (by omega), if_neg h2, dif_neg (by omega)]
theorem momAt_in (h : 0 < i) (h2 : i ≠ opsN n s) (hn : 2 ≤ n) (hs : 2 ≤ s) {j : Int} (hj : j = i - 1 - (if 1 < i then kp n s else 0)) (h3 : j ≤ opsN (n - hiz n s) (s - 1)) :
    momAt n s b i t = momAt (n - hiz n s) (s - 1) (b + hiz n s) j (if 1 < i ∧ kp n s = 1 then (t.go b (hiz n s)).keep (b + hiz n s) else t.go b (hiz n s)) := by
  subst hj
  rw [momAt, if_neg (by omega), if_neg h2, dif_pos ⟨hn, hs⟩, if_pos h3]
theorem momAt_on (h : 0 < i) (h2 : i ≠ opsN n s) (hn : 2 ≤ n) (hs : 2 ≤ s) (h3 : ¬ i - 1 - (if 1 < i then kp n s else 0) ≤ opsN (n - hiz n s) (s - 1)) {j : Int} (hj : j = i - 1 - kp n s - opsN (n - hiz n s) (s - 1) - kp n s) (h4 : 0 < j) :
    momAt n s b i t = momAt (hiz n s) s b (j - 1) (((t.go b (hiz n s)).passP (b + hiz n s) (n - hiz n s) (s - 1)).take b) := by
  subst hj
  rw [momAt, if_neg (by omega), if_neg h2, dif_pos ⟨hn, hs⟩, if_neg h3, if_pos h4]
theorem momAt_end (h : 0 < i) (h2 : i ≠ opsN n s) (hn : 2 ≤ n) (hs : 2 ≤ s) (h3 : ¬ i - 1 - (if 1 < i then kp n s else 0) ≤ opsN (n - hiz n s) (s - 1)) (h4 : ¬ 0 < i - 1 - kp n s - opsN (n - hiz n s) (s - 1) - kp n s) :
    momAt n s b i t = (t.go b (hiz n s)).passP (b + hiz n s) (n - hiz n s) (s - 1) := by
  rw [momAt, if_neg (by omega), if_neg h2, dif_pos ⟨hn, hs⟩, if_neg h3, if_neg h4]
def MSt.shift (t : MSt) (d : Int) (L : List Int) (e f : Int) : MSt := ⟨t.hand + d, L ++ t.kept.map (· + d), t.steps + e, t.backs + f⟩
variable {L : List Int} {e f k : Int}
theorem shift_go : (t.shift d L e f).go (b + d) k = (t.go b k).shift d L e f := by
  show MSt.mk _ _ _ _ = MSt.mk _ _ _ _
  congr 1
  · show b + d + k = b + k + d; omega
  · show t.steps + e + k = t.steps + k + e; omega
theorem shift_keep : (t.shift d L e f).keep (b + d) = (t.keep b).shift d L e f := by
  show MSt.mk _ _ _ _ = MSt.mk _ _ _ _
  congr 1
  show (L ++ t.kept.map (· + d)) ++ [b + d] = L ++ (t.kept ++ [b]).map (· + d)
  rw [List.map_append, List.append_assoc]
  rfl
theorem shift_take : (t.shift d L e f).take (b + d) = (t.take b).shift d L e f := rfl
theorem shift_passP : (t.shift d L e f).passP (b + d) n s = (t.passP b n s).shift d L e f := by
  show MSt.mk _ _ _ _ = MSt.mk _ _ _ _
  congr 1
  · show t.steps + e + tz n s = t.steps + tz n s + e; omega
  · show t.backs + f + n = t.backs + n + f; omega
theorem shift_passR : (t.shift d L e f).passR (b + d) n i = (t.passR b n i).shift d L e f := by
  show MSt.mk _ _ _ _ = MSt.mk _ _ _ _
  congr 1
  · show (if i % 3 > 0 then b + d + (n - 1 - i / 3) else b + d) = (if i % 3 > 0 then b + (n - 1 - i / 3) else b) + d
    split <;> omega
  · show t.steps + e + _ + _ = t.steps + _ + _ + e; omega
  · show t.backs + f + _ = t.backs + _ + f; omega
theorem momAt_shift : ∀ n s : Int, 1 ≤ n → 1 ≤ s → ∀ b i t, momAt n s (b + d) i (t.shift d L e f) = (momAt n s b i t).shift d L e f := by
  refine plan_ind (fun n s hn hs h b i t => ?_) fun n s hn hs ih1 ih2 b i t => ?_
  · by_cases h1 : i ≤ 0
    · rw [momAt_0 h1, momAt_0 h1]
    · by_cases h2 : i = opsN n s
      · rw [momAt_all (by omega) h2, momAt_all (by omega) h2, shift_passP]
      · rw [momAt_row (by omega) h2 h, momAt_row (by omega) h2 h, shift_passR]
  · by_cases h1 : i ≤ 0
    · rw [momAt_0 h1, momAt_0 h1]
    · by_cases h2 : i = opsN n s
      · rw [momAt_all (by omega) h2, momAt_all (by omega) h2, shift_passP]
      · have eb : b + d + hiz n s = b + hiz n s + d := by omega
        by_cases h3 : i - 1 - (if 1 < i then kp n s else 0) ≤ opsN (n - hiz n s) (s - 1)
        · rw [momAt_in (by omega) h2 hn hs rfl h3, momAt_in (by omega) h2 hn hs rfl h3, ← ih1, eb]
          congr 1
          split
          · rw [shift_go, shift_keep]
          · rw [shift_go]
        · by_cases h4 : 0 < i - 1 - kp n s - opsN (n - hiz n s) (s - 1) - kp n s
          · rw [momAt_on (by omega) h2 hn hs h3 rfl h4, momAt_on (by omega) h2 hn hs h3 rfl h4, ← ih2, shift_go, eb, shift_passP, shift_take]
          · rw [momAt_end (by omega) h2 hn hs h3 h4, momAt_end (by omega) h2 hn hs h3 h4, shift_go, eb, shift_passP]
end
structure MB (t : MSt) (M : Int) (L : Nat) : Prop where
  hd : -M ≤ t.hand ∧ t.hand ≤ M
  st : -M ≤ t.steps ∧ t.steps ≤ M
  bk : -M ≤ t.backs ∧ t.backs ≤ M
  kp : ∀ k ∈ t.kept, -M ≤ k ∧ k ≤ M
  ln : t.kept.length ≤ L
theorem MB.up {t : MSt} {M N : Int} {L L' : Nat} (h : MB t M L) (a : M ≤ N) (b : L ≤ L') : MB t N L' := by
  obtain ⟨⟨h1, h2⟩, ⟨h3, h4⟩, ⟨h5, h6⟩, h7, h8⟩ := h
  exact ⟨⟨by omega, by omega⟩, ⟨by omega, by omega⟩, ⟨by omega, by omega⟩, fun k hk => ⟨by have := (h7 k hk).1; omega, by have := (h7 k hk).2; omega⟩, by omega⟩
theorem MB.go {t : MSt} {M b k : Int} {L : Nat} (h : MB t M L) (b0 : 0 ≤ b) (k0 : 0 ≤ k) (h1 : b + k ≤ M) : MB (t.go b k) (M + k) L := by
  obtain ⟨h2, h3, h4, h5, h6⟩ := h.up (show M ≤ M + k by omega) (Nat.le_refl _)
  exact ⟨by show _ ≤ b + k ∧ b + k ≤ _; omega, by show _ ≤ t.steps + k ∧ t.steps + k ≤ _; have := h.st; omega, h4, h5, h6⟩
theorem MB.keep {t : MSt} {M b : Int} {L : Nat} (h : MB t M L) (b0 : 0 ≤ b) (h1 : b ≤ M) : MB (t.keep b) M (L + 1) := by
  refine ⟨h.hd, h.st, h.bk, fun k hk => ?_, ?_⟩
  · rcases List.mem_append.mp hk with hk | hk
    · exact h.kp k hk
    · rw [List.mem_singleton.mp hk]; omega
  · show (t.kept ++ [b]).length ≤ _
    rw [List.length_append]
    have := h.ln
    show t.kept.length + 1 ≤ _
    omega
theorem MB.take {t : MSt} {M b : Int} {L : Nat} (h : MB t M L) (b0 : 0 ≤ b) (h1 : b ≤ M) : MB (t.take b) M L := ⟨by show _ ≤ b ∧ b ≤ _; omega, h.st, h.bk, h.kp, h.ln⟩
theorem MB.passP {t : MSt} {M b n s : Int} {L : Nat} (h : MB t M L) (b0 : 0 ≤ b) (h1 : b + n ≤ M) (hn : 1 ≤ n) (hn2 : n ≤ 10 ^ 30) (hs : 1 ≤ s) : MB (t.passP b n s) (M + 10 ^ 60) L := by
  obtain ⟨h2, h3, h4, h5, h6⟩ := h.up (show M ≤ M + 10 ^ 60 by omega) (Nat.le_refl _)
  have := tz_cap hn hn2 hs
  have := h.st
  have := h.bk
  exact ⟨by show _ ≤ b ∧ b ≤ _; omega, by show _ ≤ t.steps + tz n s ∧ t.steps + tz n s ≤ _; omega, by show _ ≤ t.backs + n ∧ t.backs + n ≤ _; omega, h5, h6⟩
theorem MB.passR {t : MSt} {M b n i : Int} {L : Nat} (h : MB t M L) (b0 : 0 ≤ b) (h1 : b + n ≤ M) (hn : 1 ≤ n) (hn2 : n ≤ 10 ^ 30) (i0 : 0 ≤ i) (i1 : i ≤ 3 * n - 2) : MB (t.passR b n i) (M + 10 ^ 65) L := by
  obtain ⟨h2, h3, h4, h5, h6⟩ := h.up (show M ≤ M + 10 ^ 65 by omega) (Nat.le_refl _)
  have := h.st
  have := h.bk
  have k0 : 0 ≤ i / 3 ∧ i / 3 ≤ n - 1 := by omega
  have e1 : 0 ≤ i / 3 * (n - 1) ∧ i / 3 * (n - 1) ≤ 10 ^ 30 * 10 ^ 30 := ⟨Int.mul_nonneg k0.1 (by omega), Int.mul_le_mul (by omega) (by omega) (by omega) (by decide)⟩
  have e2 : -10 ^ 30 ≤ i / 3 * (i / 3 - 1) ∧ i / 3 * (i / 3 - 1) ≤ 10 ^ 30 * 10 ^ 30 := by
    generalize i / 3 = k at *
    have : 0 ≤ k * k ∧ k * k ≤ 10 ^ 30 * 10 ^ 30 := ⟨Int.mul_nonneg k0.1 k0.1, Int.mul_le_mul (by omega) (by omega) (by omega) (by decide)⟩
    rw [Int.mul_sub, Int.mul_one]
    omega
  refine ⟨?_, ?_, ?_, h5, h6⟩
  · show _ ≤ (if i % 3 > 0 then b + (n - 1 - i / 3) else b) ∧ (if i % 3 > 0 then b + (n - 1 - i / 3) else b) ≤ _
    split <;> omega
  · show _ ≤ t.steps + (i / 3 * (n - 1) - i / 3 * (i / 3 - 1) / 2) + (if i % 3 > 0 then n - 1 - i / 3 else 0) ∧ t.steps + (i / 3 * (n - 1) - i / 3 * (i / 3 - 1) / 2) + (if i % 3 > 0 then n - 1 - i / 3 else 0) ≤ _
    generalize i / 3 * (n - 1) = A at *
    generalize i / 3 * (i / 3 - 1) = B at *
    split <;> omega
  · show _ ≤ t.backs + (i / 3 + if i % 3 = 2 then 1 else 0) ∧ t.backs + (i / 3 + if i % 3 = 2 then 1 else 0) ≤ _
    split <;> omega
theorem momAt_fine : ∀ n s : Int, 1 ≤ n → 1 ≤ s → n ≤ 10 ^ 30 → ∀ (b i : Int) (t : MSt) (M : Int) (L : Nat), 0 ≤ b → b + n ≤ M → 0 ≤ i → i ≤ opsN n s → MB t M L → MB (momAt n s b i t) (M + n * 10 ^ 70) (L + s.toNat) := by
  have c0 : ∀ {n : Int}, 1 ≤ n → 10 ^ 70 ≤ n * 10 ^ 70 := fun h => by omega
  refine plan_ind (fun n s hn hs h hn2 b i t M L b0 b1 i0 i1 hb => ?_) fun n s hn hs ih1 ih2 hn2 b i t M L b0 b1 i0 i1 hb => ?_
  · by_cases h1 : i ≤ 0
    · rw [momAt_0 h1]
      exact hb.up (by omega) (by omega)
    · by_cases h2 : i = opsN n s
      · rw [momAt_all (by omega) h2]
        exact (hb.passP b0 b1 hn hn2 hs).up (by omega) (by omega)
      · rw [momAt_row (by omega) h2 h]
        rw [opsN_row h] at i1
        exact (hb.passR b0 b1 hn hn2 i0 i1).up (by omega) (by omega)
  · obtain ⟨l1, l2, l3⟩ := loz_range hn hs
    have ek := opsN_kp hn hs
    have k01 := kp_01 n s
    have og := opsN_ge (n - hiz n s) (s - 1) (by omega) (by omega)
    by_cases h1 : i ≤ 0
    · rw [momAt_0 h1]
      exact hb.up (by omega) (by omega)
    · by_cases h2 : i = opsN n s
      · rw [momAt_all (by omega) h2]
        exact (hb.passP b0 b1 (by omega) hn2 (by omega)).up (by omega) (by omega)
      · have g := hb.go b0 (show 0 ≤ hiz n s by omega) (by omega)
        by_cases h3 : i - 1 - (if 1 < i then kp n s else 0) ≤ opsN (n - hiz n s) (s - 1)
        · rw [momAt_in (by omega) h2 hn hs rfl h3]
          have g2 : MB (if 1 < i ∧ kp n s = 1 then (t.go b (hiz n s)).keep (b + hiz n s) else t.go b (hiz n s)) (M + hiz n s) (L + 1) := by
            split
            · exact g.keep (by omega) (by omega)
            · exact g.up (Int.le_refl _) (by omega)
          exact (ih1 (by omega) (b + hiz n s) _ _ (M + hiz n s) (L + 1) (by omega) (by omega) (by split <;> omega) h3 g2).up (by omega) (by omega)
        · have p := g.passP (b := b + hiz n s) (n := n - hiz n s) (s := s - 1) (by omega) (by omega) (by omega) (by omega) (by omega)
          by_cases h4 : 0 < i - 1 - kp n s - opsN (n - hiz n s) (s - 1) - kp n s
          · rw [momAt_on (by omega) h2 hn hs h3 rfl h4]
            exact (ih2 (by omega) b _ _ _ L b0 (by omega) (by omega) (by omega) (p.take b0 (by omega))).up (by omega) (by omega)
          · rw [momAt_end (by omega) h2 hn hs h3 h4]
            exact p.up (by omega) (by omega)
/-! ### plans played -/
def TSt.run : TSt → List Op → TSt
  | t, [] => t
  | t, o :: os => TSt.run (t.did o) os
def TSt.ok : TSt → List Op → Prop
  | _, [] => True
  | t, o :: os => t.can o = true ∧ TSt.ok (t.did o) os
theorem run_app : ∀ (a b : List Op) (t : TSt), t.run (a ++ b) = (t.run a).run b
  | [], _, _ => rfl
  | o :: a, b, t => run_app a b (t.did o)
theorem ok_app : ∀ (a b : List Op) (t : TSt), t.ok (a ++ b) ↔ t.ok a ∧ (t.run a).ok b
  | [], _, _ => ⟨fun h => ⟨trivial, h⟩, fun h => h.2⟩
  | o :: a, b, t => by
    show (_ ∧ TSt.ok (t.did o) (a ++ b)) ↔ ((_ ∧ TSt.ok (t.did o) a) ∧ _)
    rw [ok_app a b (t.did o), and_assoc]
    exact Iff.rfl
abbrev TSt.past (t : TSt) (b n s : Int) : TSt := { t with hand := b, steps := t.steps + tz n s, backs := t.backs + n }
def tri : Nat → Int
  | 0 => 0
  | k + 1 => ((k + 1 : Nat) : Int) + tri k
theorem tri_2 : ∀ k : Nat, 2 * tri k = (k : Int) * ((k : Int) + 1)
  | 0 => rfl
  | k + 1 => by
    have ih := tri_2 k
    show 2 * (((k + 1 : Nat) : Int) + tri k) = _
    rw [Int.mul_add, ih, show ((k + 1 : Nat) : Int) = (k : Int) + 1 by omega, ← Int.add_mul, Int.mul_comm]
    congr 1
    omega
theorem tri_tz {n s : Int} (hn : 1 ≤ n) (hs : 1 ≤ s) (h : n < 2 ∨ s < 2) : tri (n - 1).toNat = tz n s := by
  by_cases h1 : n = 1
  · subst h1
    rw [tz_one hs]
    rfl
  · have e : s = 1 := by omega
    subst e
    have a := tz_slot1 hn
    have b := tri_2 (n - 1).toNat
    rw [show (((n - 1).toNat : Nat) : Int) = n - 1 by omega, show n - 1 + 1 = n by omega, Int.mul_comm (n - 1) n] at b
    omega
theorem tst_ext {t u : TSt} (h1 : t.n = u.n) (h2 : t.s = u.s) (h3 : t.hand = u.hand) (h4 : t.kept = u.kept) (h5 : t.steps = u.steps) (h6 : t.backs = u.backs) : t = u := by
  cases t
  cases u
  simp only at h1 h2 h3 h4 h5 h6
  subst h1 h2 h3 h4 h5 h6
  rfl
theorem run_row (n b : Int) : ∀ (k : Nat) (t : TSt), t.hand = b → t.run (rowL n b k) = { t with hand := b, steps := t.steps + tri k, backs := t.backs + ((k : Int) + 1) }
  | 0, t, h => by
    show ({ t with backs := t.backs + 1 } : TSt) = _
    refine tst_ext rfl rfl h rfl ?_ ?_
    · show t.steps = t.steps + 0; omega
    · show t.backs + 1 = t.backs + (((0 : Nat) : Int) + 1); omega
  | k + 1, t, h => by
    show (((t.did (.go (k + 1 : Nat))).did .back).did (.take b)).run (rowL n b k) = _
    rw [run_row n b k _ rfl]
    refine tst_ext rfl rfl rfl rfl ?_ ?_
    · show t.steps + ((k + 1 : Nat) : Int) + tri k = t.steps + (((k + 1 : Nat) : Int) + tri k); omega
    · show t.backs + 1 + ((k : Int) + 1) = t.backs + (((k + 1 : Nat) : Int) + 1); omega
theorem best_sum {n s : Int} (hn : 2 ≤ n) (hs : 2 ≤ s) : hiz n s + tz (n - hiz n s) (s - 1) + tz (hiz n s) s = tz n s := by
  obtain ⟨l1, l2, l3⟩ := loz_range hn hs
  exact tz_best hs (by omega) l3 (hiz_best hn hs)
theorem erase_last {l : List Int} {x : Int} (h : x ∉ l) : (l ++ [x]).erase x = l := by
  rw [List.erase_append_right _ h]
  simp
theorem run_plan : ∀ n s : Int, 1 ≤ n → 1 ≤ s → ∀ (b : Int) (t : TSt), t.hand = b → (∀ k ∈ t.kept, k ≤ b) → t.run (opsL n s b) = t.past b n s := by
  refine plan_ind (fun n s hn hs h b t ht hk => ?_) fun n s hn hs ih1 ih2 b t ht hk => ?_
  · rw [opsL_row h, run_row _ _ _ _ ht, tri_tz hn hs h]
    refine tst_ext rfl rfl rfl rfl rfl ?_
    show t.backs + ((((n - 1).toNat : Nat) : Int) + 1) = t.backs + n
    omega
  · obtain ⟨l1, l2, l3⟩ := loz_range hn hs
    have bs := best_sum hn hs
    rw [opsL_two hn hs]
    show (t.did (.go (hiz n s))).run _ = _
    have t1h : (t.did (.go (hiz n s))).hand = b + hiz n s := by show t.hand + hiz n s = _; rw [ht]
    rw [run_app, run_app, run_app]
    rcases kp_01 n s with k | k
    · have k' : ¬ kp n s = 1 := by omega
      rw [if_neg k', if_neg k']
      show ((((t.did (.go (hiz n s))).run (opsL (n - hiz n s) (s - 1) (b + hiz n s))).did (.take b)).run (opsL (hiz n s) s b)) = _
      rw [ih1 _ _ t1h (fun k hk' => by have := hk k hk'; omega), ih2 b (((t.did (.go (hiz n s))).past (b + hiz n s) (n - hiz n s) (s - 1)).did (.take b)) rfl hk]
      refine tst_ext rfl rfl rfl rfl ?_ ?_
      · show t.steps + hiz n s + tz (n - hiz n s) (s - 1) + tz (hiz n s) s = t.steps + tz n s; omega
      · show t.backs + (n - hiz n s) + hiz n s = t.backs + n; omega
    · rw [if_pos k, if_pos k]
      show ((((((t.did (.go (hiz n s))).did .keep).run (opsL (n - hiz n s) (s - 1) (b + hiz n s))).did (.free (b + hiz n s))).did (.take b)).run (opsL (hiz n s) s b)) = _
      have nk : b + hiz n s ∉ t.kept := fun z => by have := hk _ z; omega
      rw [ih1 _ ((t.did (.go (hiz n s))).did .keep) t1h (fun k hk' => by
        have hk2 : k ∈ t.kept ++ [t.hand + hiz n s] := hk'
        rcases List.mem_append.mp hk2 with h | h
        · have := hk k h; omega
        · rw [List.mem_singleton.mp h, ht]; omega)]
      have ek : ((((t.did (.go (hiz n s))).did .keep).past (b + hiz n s) (n - hiz n s) (s - 1)).did (.free (b + hiz n s))).kept = t.kept := by
        show (t.kept ++ [t.hand + hiz n s]).erase (b + hiz n s) = t.kept
        rw [ht]
        exact erase_last nk
      rw [ih2 b _ rfl (by
        intro k hk'
        have hk2 : k ∈ ((((t.did (.go (hiz n s))).did .keep).past (b + hiz n s) (n - hiz n s) (s - 1)).did (.free (b + hiz n s))).kept := hk'
        rw [ek] at hk2
        exact hk k hk2)]
      refine tst_ext rfl rfl rfl ek ?_ ?_
      · show t.steps + hiz n s + tz (n - hiz n s) (s - 1) + tz (hiz n s) s = t.steps + tz n s; omega
      · show t.backs + (n - hiz n s) + hiz n s = t.backs + n; omega
theorem ok_row (n b : Int) (hb : 0 ≤ b) : ∀ (k : Nat) (t : TSt), t.hand = b → (k = 0 ∨ b ∈ t.kept) → 0 ≤ t.backs → t.n = b + ((k : Int) + 1) + t.backs → t.ok (rowL n b k)
  | 0, t, h, _, h3, h4 => by
    refine ⟨?_, trivial⟩
    show (decide (t.backs < t.n) && decide (t.hand = t.n - 1 - t.backs)) = true
    rw [decide_eq_true (by omega), decide_eq_true (by omega)]
    rfl
  | k + 1, t, h, h2, h3, h4 => by
    have h2' : b ∈ t.kept := h2.resolve_left (by omega)
    refine ⟨?_, ?_, ?_, ok_row n b hb k _ rfl (.inr h2') (by show 0 ≤ t.backs + 1; omega) (by show t.n = b + ((k : Int) + 1) + (t.backs + 1); omega)⟩
    · exact decide_eq_true (by show t.hand + ((k + 1 : Nat) : Int) < t.n; omega)
    · show (decide (t.backs < t.n) && decide (t.hand + ((k + 1 : Nat) : Int) = t.n - 1 - t.backs)) = true
      rw [decide_eq_true (by omega), decide_eq_true (by omega)]
      rfl
    · exact decide_eq_true h2'
theorem ok_plan : ∀ n s : Int, 1 ≤ n → 1 ≤ s → ∀ (b : Int) (t : TSt), 0 ≤ b → t.hand = b → (n = 1 ∨ b ∈ t.kept) → (∀ k ∈ t.kept, k ≤ b) → (t.kept.length : Int) + (s - 1) ≤ t.s → 0 ≤ t.backs → t.n = b + n + t.backs → t.ok (opsL n s b) := by
  refine plan_ind (fun n s hn hs h b t hb ht hm hk hl hz hN => ?_) fun n s hn hs ih1 ih2 b t hb ht hm hk hl hz hN => ?_
  · rw [opsL_row h]
    exact ok_row n b hb _ t ht (hm.imp (fun h => by omega) id) hz (by omega)
  · obtain ⟨l1, l2, l3⟩ := loz_range hn hs
    have hm' : b ∈ t.kept := hm.resolve_left (by omega)
    rw [opsL_two hn hs]
    have t1h : (t.did (.go (hiz n s))).hand = b + hiz n s := by show t.hand + hiz n s = _; rw [ht]
    refine ⟨decide_eq_true (by omega), ?_⟩
    rw [ok_app, ok_app, ok_app]
    rcases kp_01 n s with k | k
    · have k' : ¬ kp n s = 1 := by omega
      have n1 : n - hiz n s = 1 := by unfold kp at k; split at k <;> omega
      rw [if_neg k', if_neg k']
      have g1 := ih1 (b + hiz n s) (t.did (.go (hiz n s))) (by omega) t1h (.inl n1) (fun k hk' => by have := hk k hk'; omega) (by show (t.kept.length : Int) + (s - 1 - 1) ≤ t.s; omega) hz (by show t.n = b + hiz n s + (n - hiz n s) + t.backs; omega)
      have r1 := run_plan (n - hiz n s) (s - 1) (by omega) (by omega) (b + hiz n s) (t.did (.go (hiz n s))) t1h (fun k hk' => by have := hk k hk'; omega)
      refine ⟨⟨⟨trivial, g1⟩, trivial⟩, ?_⟩
      rw [List.nil_append, List.append_nil]
      show TSt.can ((t.did (.go (hiz n s))).run (opsL (n - hiz n s) (s - 1) (b + hiz n s))) (.take b) = true ∧ TSt.ok (((t.did (.go (hiz n s))).run (opsL (n - hiz n s) (s - 1) (b + hiz n s))).did (.take b)) (opsL (hiz n s) s b)
      rw [r1]
      exact ⟨decide_eq_true hm', ih2 b _ hb rfl (.inr hm') hk hl (by show 0 ≤ t.backs + (n - hiz n s); omega) (by show t.n = b + hiz n s + (t.backs + (n - hiz n s)); omega)⟩
    · rw [if_pos k, if_pos k]
      have nk : b + hiz n s ∉ t.kept := fun z => by have := hk _ z; omega
      have c1 : ∀ k ∈ ((t.did (.go (hiz n s))).did .keep).kept, k ≤ b + hiz n s := fun k hk' => by
        have hk2 : k ∈ t.kept ++ [t.hand + hiz n s] := hk'
        rcases List.mem_append.mp hk2 with h | h
        · have := hk k h; omega
        · rw [List.mem_singleton.mp h, ht]; omega
      have in1 : b + hiz n s ∈ ((t.did (.go (hiz n s))).did .keep).kept := by
        show b + hiz n s ∈ t.kept ++ [t.hand + hiz n s]
        rw [ht]
        exact List.mem_append_right _ (List.mem_singleton.mpr rfl)
      have g1 := ih1 (b + hiz n s) ((t.did (.go (hiz n s))).did .keep) (by omega) t1h (.inr in1) c1 (by show ((t.kept ++ [t.hand + hiz n s]).length : Int) + (s - 1 - 1) ≤ t.s; rw [List.length_append]; show ((t.kept.length + 1 : Nat) : Int) + (s - 1 - 1) ≤ t.s; omega) hz (by show t.n = b + hiz n s + (n - hiz n s) + t.backs; omega)
      have r1 := run_plan (n - hiz n s) (s - 1) (by omega) (by omega) (b + hiz n s) ((t.did (.go (hiz n s))).did .keep) t1h c1
      have ek : ((((t.did (.go (hiz n s))).did .keep).past (b + hiz n s) (n - hiz n s) (s - 1)).did (.free (b + hiz n s))).kept = t.kept := by
        show (t.kept ++ [t.hand + hiz n s]).erase (b + hiz n s) = t.kept
        rw [ht]
        exact erase_last nk
      refine ⟨⟨⟨⟨?_, trivial⟩, g1⟩, ?_⟩, ?_⟩
      · show (decide (t.hand + hiz n s ∉ t.kept) && decide ((t.kept.length : Int) < t.s)) = true
        rw [ht, decide_eq_true nk, decide_eq_true (by omega)]
        rfl
      · show TSt.can (((t.did (.go (hiz n s))).did .keep).run (opsL (n - hiz n s) (s - 1) (b + hiz n s))) (.free (b + hiz n s)) = true ∧ True
        rw [r1]
        exact ⟨decide_eq_true in1, trivial⟩
      · rw [run_app, run_app]
        show TSt.can ((((t.did (.go (hiz n s))).did .keep).run (opsL (n - hiz n s) (s - 1) (b + hiz n s))).did (.free (b + hiz n s))) (.take b) = true ∧ TSt.ok (((((t.did (.go (hiz n s))).did .keep).run (opsL (n - hiz n s) (s - 1) (b + hiz n s))).did (.free (b + hiz n s))).did (.take b)) (opsL (hiz n s) s b)
        rw [r1]
        have hb2 : b ∈ ((((t.did (.go (hiz n s))).did .keep).past (b + hiz n s) (n - hiz n s) (s - 1)).did (.free (b + hiz n s))).kept := by rw [ek]; exact hm'
        refine ⟨decide_eq_true hb2, ih2 b _ hb rfl (.inr hb2) (fun k hk' => ?_) ?_ (by show 0 ≤ t.backs + (n - hiz n s); omega) (by show t.n = b + hiz n s + (t.backs + (n - hiz n s)); omega)⟩
        · have hk2 : k ∈ ((((t.did (.go (hiz n s))).did .keep).past (b + hiz n s) (n - hiz n s) (s - 1)).did (.free (b + hiz n s))).kept := hk'
          rw [ek] at hk2
          exact hk k hk2
        · show ((((((t.did (.go (hiz n s))).did .keep).past (b + hiz n s) (n - hiz n s) (s - 1)).did (.free (b + hiz n s))).kept.length : Nat) : Int) + (s - 1) ≤ t.s
          rw [ek]
          exact hl
/-! moments by playing -/
def TSt.m (t : TSt) : MSt := ⟨t.hand, t.kept, t.steps, t.backs⟩
theorem mst_ext {t u : MSt} (h3 : t.hand = u.hand) (h4 : t.kept = u.kept) (h5 : t.steps = u.steps) (h6 : t.backs = u.backs) : t = u := by
  cases t
  cases u
  simp only at h3 h4 h5 h6
  subst h3 h4 h5 h6
  rfl
theorem pass_step (k q x : Int) : (q + 1) * (k + 1) - (q + 1) * (q + 1 - 1) / 2 = (k + 1) + (q * k - q * (q - 1) / 2) := by
  have e1 : (q + 1) * (q + 1 - 1) = q * (q - 1) + 2 * q := by
    rw [show q + 1 - 1 = q by omega, Int.add_mul, Int.mul_sub]
    omega
  have e2 : (q + 1) * (k + 1) = q * k + q + (k + 1) := by
    rw [Int.add_mul, Int.mul_add]
    omega
  rw [e1, e2]
  generalize q * (q - 1) = A
  generalize q * k = B
  omega
theorem pre_row (n b : Int) : ∀ (k i : Nat) (t : TSt), t.hand = b → i ≤ 3 * k → 0 < i → (t.run ((rowL n b k).take i)).m = t.m.passR b ((k : Int) + 1) (i : Int)
  | 0, i, t, h, hi, h0 => by omega
  | k + 1, 0, t, h, hi, h0 => by omega
  | k + 1, 1, t, h, _, _ => by
    refine mst_ext ?_ rfl ?_ ?_
    · show t.hand + ((k + 1 : Nat) : Int) = if ((1 : Nat) : Int) % 3 > 0 then b + (((k + 1 : Nat) : Int) + 1 - 1 - ((1 : Nat) : Int) / 3) else b
      rw [if_pos (by decide)]
      omega
    · show t.steps + ((k + 1 : Nat) : Int) = t.steps + (((1 : Nat) : Int) / 3 * _ - ((1 : Nat) : Int) / 3 * _ / 2) + (if ((1 : Nat) : Int) % 3 > 0 then ((k + 1 : Nat) : Int) + 1 - 1 - ((1 : Nat) : Int) / 3 else 0)
      rw [if_pos (by decide), show ((1 : Nat) : Int) / 3 = 0 by decide, Int.zero_mul, Int.zero_mul]
      omega
    · show t.backs = t.backs + (((1 : Nat) : Int) / 3 + if ((1 : Nat) : Int) % 3 = 2 then 1 else 0)
      rw [if_neg (by decide)]
      omega
  | k + 1, 2, t, h, _, _ => by
    refine mst_ext ?_ rfl ?_ ?_
    · show t.hand + ((k + 1 : Nat) : Int) = if ((2 : Nat) : Int) % 3 > 0 then b + (((k + 1 : Nat) : Int) + 1 - 1 - ((2 : Nat) : Int) / 3) else b
      rw [if_pos (by decide)]
      omega
    · show t.steps + ((k + 1 : Nat) : Int) = t.steps + (((2 : Nat) : Int) / 3 * _ - ((2 : Nat) : Int) / 3 * _ / 2) + (if ((2 : Nat) : Int) % 3 > 0 then ((k + 1 : Nat) : Int) + 1 - 1 - ((2 : Nat) : Int) / 3 else 0)
      rw [if_pos (by decide), show ((2 : Nat) : Int) / 3 = 0 by decide, Int.zero_mul, Int.zero_mul]
      omega
    · show t.backs + 1 = t.backs + (((2 : Nat) : Int) / 3 + if ((2 : Nat) : Int) % 3 = 2 then 1 else 0)
      rw [if_pos (by decide)]
      omega
  | k + 1, i + 3, t, h, hi, _ => by
    show ((((t.did (.go (k + 1 : Nat))).did .back).did (.take b)).run ((rowL n b k).take i)).m = _
    have eq3 : ((i + 3 : Nat) : Int) / 3 = (i : Int) / 3 + 1 := by omega
    have em3 : ((i + 3 : Nat) : Int) % 3 = (i : Int) % 3 := by omega
    by_cases h0 : i = 0
    · subst h0
      rw [List.take_zero]
      refine mst_ext ?_ rfl ?_ ?_
      · show b = if ((0 + 3 : Nat) : Int) % 3 > 0 then b + (((k + 1 : Nat) : Int) + 1 - 1 - ((0 + 3 : Nat) : Int) / 3) else b
        rw [if_neg (by decide)]
      · show t.steps + ((k + 1 : Nat) : Int) = t.steps + (((0 + 3 : Nat) : Int) / 3 * (((k + 1 : Nat) : Int) + 1 - 1) - ((0 + 3 : Nat) : Int) / 3 * (((0 + 3 : Nat) : Int) / 3 - 1) / 2) + (if ((0 + 3 : Nat) : Int) % 3 > 0 then ((k + 1 : Nat) : Int) + 1 - 1 - ((0 + 3 : Nat) : Int) / 3 else 0)
        rw [if_neg (by decide), show ((0 + 3 : Nat) : Int) / 3 = 1 by decide]
        omega
      · show t.backs + 1 = t.backs + (((0 + 3 : Nat) : Int) / 3 + if ((0 + 3 : Nat) : Int) % 3 = 2 then 1 else 0)
        rw [if_neg (by decide)]
        omega
    · rw [pre_row n b k i _ rfl (by omega) (by omega)]
      refine mst_ext ?_ rfl ?_ ?_
      · show (if (i : Int) % 3 > 0 then b + ((k : Int) + 1 - 1 - (i : Int) / 3) else b) = if ((i + 3 : Nat) : Int) % 3 > 0 then b + (((k + 1 : Nat) : Int) + 1 - 1 - ((i + 3 : Nat) : Int) / 3) else b
        rw [eq3, em3]
        by_cases h : (i : Int) % 3 > 0
        · rw [if_pos h, if_pos h]; omega
        · rw [if_neg h, if_neg h]
      · show t.steps + ((k + 1 : Nat) : Int) + ((i : Int) / 3 * ((k : Int) + 1 - 1) - (i : Int) / 3 * ((i : Int) / 3 - 1) / 2) + (if (i : Int) % 3 > 0 then (k : Int) + 1 - 1 - (i : Int) / 3 else 0) =
          t.steps + (((i + 3 : Nat) : Int) / 3 * (((k + 1 : Nat) : Int) + 1 - 1) - ((i + 3 : Nat) : Int) / 3 * (((i + 3 : Nat) : Int) / 3 - 1) / 2) + (if ((i + 3 : Nat) : Int) % 3 > 0 then ((k + 1 : Nat) : Int) + 1 - 1 - ((i + 3 : Nat) : Int) / 3 else 0)
        rw [eq3, em3, show ((k + 1 : Nat) : Int) + 1 - 1 = (k : Int) + 1 by omega, pass_step (k : Int) ((i : Int) / 3) 0, show (k : Int) + 1 - 1 = (k : Int) by omega]
        generalize (i : Int) / 3 * (k : Int) - (i : Int) / 3 * ((i : Int) / 3 - 1) / 2 = A
        by_cases h : (i : Int) % 3 > 0
        · rw [if_pos h, if_pos h]; omega
        · rw [if_neg h, if_neg h]; omega
      · show t.backs + 1 + ((i : Int) / 3 + if (i : Int) % 3 = 2 then 1 else 0) = t.backs + (((i + 3 : Nat) : Int) / 3 + if ((i + 3 : Nat) : Int) % 3 = 2 then 1 else 0)
        rw [eq3, em3]
        omega
theorem pre_plan : ∀ n s : Int, 1 ≤ n → 1 ≤ s → ∀ (b : Int) (i : Nat) (t : TSt), t.hand = b → (∀ k ∈ t.kept, k ≤ b) → (i : Int) ≤ opsN n s → (t.run ((opsL n s b).take i)).m = momAt n s b i t.m := by
  have full : ∀ {n s : Int}, 1 ≤ n → 1 ≤ s → ∀ {b : Int} {i : Nat} {t : TSt}, t.hand = b → (∀ k ∈ t.kept, k ≤ b) → (i : Int) = opsN n s → (t.run ((opsL n s b).take i)).m = momAt n s b i t.m := by
    intro n s hn hs b i t ht hk hi
    have hl := opsL_len n s hn hs b
    have og := opsN_ge n s hn hs
    rw [List.take_of_length_le (by omega), run_plan n s hn hs b t ht hk, momAt_all (by omega) hi]
    rfl
  refine plan_ind (fun n s hn hs h b i t ht hk hi => ?_) fun n s hn hs ih1 ih2 b i t ht hk hi => ?_
  · by_cases h1 : (i : Int) = opsN n s
    · exact full hn hs ht hk h1
    · by_cases h0 : i = 0
      · subst h0
        rw [momAt_0 (by omega)]
        rfl
      · rw [momAt_row (by omega) h1 h, opsL_row h, pre_row n b _ i t ht (by rw [opsN_row h] at hi h1; omega) (by omega), show (((n - 1).toNat : Nat) : Int) + 1 = n by omega]
  · by_cases h1 : (i : Int) = opsN n s
    · exact full (by omega) (by omega) ht hk h1
    · match i with
      | 0 =>
        rw [momAt_0 (by omega)]
        rfl
      | j + 1 =>
        obtain ⟨l1, l2, l3⟩ := loz_range hn hs
        have len := opsL_len (n - hiz n s) (s - 1) (by omega) (by omega) (b + hiz n s)
        have len2 := opsL_len (hiz n s) s (by omega) (by omega) b
        have ek := opsN_kp hn hs
        have og1 := opsN_ge (n - hiz n s) (s - 1) (by omega) (by omega)
        have og2 := opsN_ge (hiz n s) s (by omega) (by omega)
        rw [opsL_two hn hs]
        show ((t.did (.go (hiz n s))).run (List.take j _)).m = _
        have t1h : (t.did (.go (hiz n s))).hand = b + hiz n s := by show t.hand + hiz n s = _; rw [ht]
        have t1m : (t.did (.go (hiz n s))).m = t.m.go b (hiz n s) := by
          refine mst_ext ?_ rfl rfl rfl
          show t.hand + hiz n s = b + hiz n s
          rw [ht]
        have k1 : ∀ k ∈ (t.did (.go (hiz n s))).kept, k ≤ b + hiz n s := fun k hk' => by have := hk k hk'; omega
        generalize hL1 : opsL (n - hiz n s) (s - 1) (b + hiz n s) = L1 at *
        rcases kp_01 n s with k | k
        · have k' : ¬ kp n s = 1 := by omega
          rw [if_neg k', if_neg k', List.nil_append, List.append_nil, List.take_append, run_app]
          by_cases h2 : j ≤ L1.length
          · rw [momAt_in (by omega) h1 hn hs (j := (j : Int)) (by split <;> omega) (by omega), if_neg (by omega), show j - L1.length = 0 by omega, List.take_zero]
            show ((t.did (.go (hiz n s))).run (L1.take j)).m = _
            rw [← hL1, ih1 _ j _ t1h k1 (by omega), t1m]
          · rw [momAt_on (by omega) h1 hn hs (by split <;> omega) (j := (j : Int) - L1.length) (by omega) (by omega), List.take_of_length_le (by omega), ← hL1, run_plan (n - hiz n s) (s - 1) (by omega) (by omega) _ _ t1h k1, hL1]
            obtain ⟨q, hq⟩ : ∃ q, j - L1.length = q + 1 := ⟨j - L1.length - 1, by omega⟩
            rw [hq, show (j : Int) - (L1.length : Int) - 1 = (q : Int) by omega]
            show ((((t.did (.go (hiz n s))).past (b + hiz n s) (n - hiz n s) (s - 1)).did (.take b)).run ((opsL (hiz n s) s b).take q)).m = _
            rw [ih2 b q (((t.did (.go (hiz n s))).past (b + hiz n s) (n - hiz n s) (s - 1)).did (.take b)) rfl hk (by omega)]
            congr 1
        · rw [if_pos k, if_pos k]
          match j with
          | 0 =>
            rw [momAt_in (by omega) h1 hn hs (j := 0) (by rw [if_neg (by omega)]; omega) (by omega), if_neg (by omega), momAt_0 (by omega), ← t1m]
            rfl
          | j + 1 =>
            have t2h : ((t.did (.go (hiz n s))).did .keep).hand = b + hiz n s := t1h
            have t2m : ((t.did (.go (hiz n s))).did .keep).m = (t.m.go b (hiz n s)).keep (b + hiz n s) := by
              refine mst_ext ?_ ?_ rfl rfl
              · show t.hand + hiz n s = b + hiz n s
                rw [ht]
              · show t.kept ++ [t.hand + hiz n s] = t.kept ++ [b + hiz n s]
                rw [ht]
            have k2 : ∀ k ∈ ((t.did (.go (hiz n s))).did .keep).kept, k ≤ b + hiz n s := fun k hk' => by
              have hk2 : k ∈ t.kept ++ [t.hand + hiz n s] := hk'
              rcases List.mem_append.mp hk2 with h | h
              · have := hk k h; omega
              · rw [List.mem_singleton.mp h, ht]; omega
            have nk : b + hiz n s ∉ t.kept := fun z => by have := hk _ z; omega
            show (((t.did (.go (hiz n s))).did .keep).run (List.take j ((L1 ++ [.free (b + hiz n s)]) ++ .take b :: opsL (hiz n s) s b))).m = _
            rw [List.append_assoc, List.take_append, run_app]
            by_cases h2 : j ≤ L1.length
            · rw [momAt_in (by omega) h1 hn hs (j := (j : Int)) (by rw [if_pos (by omega)]; omega) (by omega), if_pos ⟨by omega, k⟩, show j - L1.length = 0 by omega, List.take_zero]
              show (((t.did (.go (hiz n s))).did .keep).run (L1.take j)).m = _
              rw [← hL1, ih1 _ j _ t2h k2 (by omega), t2m]
            · have ekk : ((((t.did (.go (hiz n s))).did .keep).past (b + hiz n s) (n - hiz n s) (s - 1)).did (.free (b + hiz n s))).kept = t.kept := by
                show (t.kept ++ [t.hand + hiz n s]).erase (b + hiz n s) = t.kept
                rw [ht]
                exact erase_last nk
              rw [List.take_of_length_le (by omega), ← hL1, run_plan (n - hiz n s) (s - 1) (by omega) (by omega) _ _ t2h k2, hL1]
              obtain ⟨q, hq⟩ : ∃ q, j - L1.length = q + 1 := ⟨j - L1.length - 1, by omega⟩
              rw [hq]
              show (((((t.did (.go (hiz n s))).did .keep).past (b + hiz n s) (n - hiz n s) (s - 1)).did (.free (b + hiz n s))).run (List.take q (.take b :: opsL (hiz n s) s b))).m = _
              match q with
              | 0 =>
                rw [momAt_end (by omega) h1 hn hs (by rw [if_pos (by omega)]; omega) (by omega)]
                refine mst_ext rfl ekk rfl rfl
              | q + 1 =>
                rw [momAt_on (by omega) h1 hn hs (by rw [if_pos (by omega)]; omega) (j := (q : Int) + 1) (by omega) (by omega), show (q : Int) + 1 - 1 = (q : Int) by omega]
                show ((((((t.did (.go (hiz n s))).did .keep).past (b + hiz n s) (n - hiz n s) (s - 1)).did (.free (b + hiz n s))).did (.take b)).run ((opsL (hiz n s) s b).take q)).m = _
                rw [ih2 b q _ rfl (fun k hk' => by
                  have hk2 : k ∈ ((((t.did (.go (hiz n s))).did .keep).past (b + hiz n s) (n - hiz n s) (s - 1)).did (.free (b + hiz n s))).kept := hk'
                  rw [ekk] at hk2
                  exact hk k hk2) (by omega)]
                congr 1
                exact mst_ext rfl ekk rfl rfl
section
variable {P : Program} {w : World} {K : PySem.W.Frag} {mg : Str → Option Value} {base : Heap}
/-! ### checks -/
def sp_is_int (K : PySem.W.Frag) : Sp := sp1 fun a H Q _ => ∃ o, IntOr K H a o ∧ Q (.bl o.isSome) H
theorem sc_is_int : FnScope ["value"] ["value"] (defScope s_is_int) := ⟨rfl, rfl, rfl, by decide +kernel, rfl, by decide +kernel, by decide +kernel⟩
theorem ok_is_int (T : Txt P w K mg base) : FnOk P w K mg base (L2.CX P w) 1 T.a_is_int T.fd_is_int ["value"] (sp_is_int K) := by
  refine FunD.ok T.F_is_int sc_is_int (fun vs H Q E h => ar1 h) (fun cdv A fr s H vs Q E hr h => ⟨_, PSs.nox (pss_one (ps_ret (pe_and (pe_callB (r := rIsi K) call_isi (by rfl) T.n_isinstance (by decide +kernel) (pa_cons (pv 0) (pa_cons (pe_bltn (v := .ty "int") (by rfl) T.n_int (by decide +kernel) rfl) pa_nil))) (pe_one (pe_not (pe_callB (r := rIsi K) call_isi (by rfl) T.n_isinstance (by decide +kernel) (pa_cons (pv 0) (pa_cons (pe_bltn (v := .ty "bool") (by rfl) T.n_bool (by decide +kernel) rfl) pa_nil)))))))), ?_⟩)
  obtain ⟨_, rfl, o, h, q⟩ := h
  walk_at "rd"
  cases o with
  | some n =>
    cases h
    refine ⟨.int n, .ty "int", .type "int", .type "int", true, rfl, .ty _, .base (.int _), kit_ty kit_int_int, true, rfl, iteT ?_⟩
    exact ⟨.int n, .ty "bool", .type "int", .type "bool", false, rfl, .ty _, .base (.int _), kit_ty kit_int_bool, false, rfl, q⟩
  | none =>
    obtain ⟨t, b1, b2, ty, k1, k2, e⟩ := h
    refine ⟨_, .ty "int", .type t, .type "int", b1, rfl, .ty _, ty, kit_ty k1, b1, rfl, ?_⟩
    cases b1 with
    | false => exact iteF q
    | true =>
      refine iteT ⟨_, .ty "bool", .type t, .type "bool", b2, rfl, .ty _, ty, kit_ty k2, b2, rfl, ?_⟩
      have e2 : (!b2) = false := by simpa using e
      rw [e2]
      exact q
def sp_is_whole (K : PySem.W.Frag) : Sp := sp3 fun a b c H Q _ => ∃ (o : Option Int) (lo hi : Int), IntOr K H a o ∧ b = .int lo ∧ c = .int hi ∧ Q (.bl (whole o lo hi)) H
theorem sc_is_whole : FnScope ["value", "low", "high"] ["value", "low", "high"] (defScope s_is_whole) := ⟨rfl, rfl, rfl, by decide +kernel, rfl, by decide +kernel, by decide +kernel⟩
theorem ok_is_whole (T : Txt P w K mg base) : FnOk P w K mg base (L2.CX P w) 2 T.a_is_whole T.fd_is_whole ["value", "low", "high"] (sp_is_whole K) := by
  refine FunD.ok T.F_is_whole sc_is_whole (fun vs H Q E h => ar3 h) (fun cdv A fr s H vs Q E hr h => ⟨_, PSs.nox (pss_one (ps_ret (pe_and (pe_call (ok_is_int T) hr (by rfl) T.g_is_int T.F_is_int.kp T.b_is_int .nil passL (pa_cons (pv 0) pa_nil)) (pe_one (pe_chain op_le op_le (pv 1) (pv 0) (pv 2)))))), ?_⟩)
  obtain ⟨_, _, _, rfl, o, lo, hi, h, rfl, rfl, q⟩ := h
  walk_at "rd"
  unfold sp_is_int
  walk_at "rd"
  refine ⟨o, h, ?_⟩
  cases o with
  | none => exact q
  | some n =>
    cases h
    have e : whole (some n) lo hi = (decide (lo ≤ n) && decide (n ≤ hi)) := by unfold whole; simp
    rw [e] at q
    simp only [Option.isSome_some]
    walk_at "rd"
    refine ite2 (fun h => ?_) (fun h => ?_)
    · rw [decide_eq_true h, Bool.true_and] at q
      exact q
    · rw [decide_eq_false h, Bool.false_and] at q
      exact q
theorem sc_TooLarge___init__ : FnScope ["self", "limit"] ["self", "limit"] (defScope s_TooLarge___init__) := ⟨rfl, rfl, rfl, by decide +kernel, rfl, by decide +kernel, by decide +kernel⟩
theorem ok_TooLarge___init__ (T : Txt P w K mg base) : FnOk P w K mg base (L2.CX P w) 1 T.a_TooLarge___init__ T.fd_TooLarge___init__ ["self", "limit"] (spIn K "limit") := by
  refine FunD.ok T.F_TooLarge___init__ sc_TooLarge___init__ (spIn_len rfl) (fun cdv A fr s H vs Q E hr h => ⟨_, (pss_one (ps_ost (pv 0) (pv 1))), ?_⟩)
  obtain ⟨a, C, v, rfl, ox, no, ha, q⟩ := h
  exact ⟨_, rfl, _, rfl, a, C, rfl, ox, no, .inl ⟨ha, fun dx h1 h2 => q dx h1 h2⟩⟩
theorem sc_TooDeep___init__ : FnScope ["self", "rounds"] ["self", "rounds"] (defScope s_TooDeep___init__) := ⟨rfl, rfl, rfl, by decide +kernel, rfl, by decide +kernel, by decide +kernel⟩
theorem ok_TooDeep___init__ (T : Txt P w K mg base) : FnOk P w K mg base (L2.CX P w) 1 T.a_TooDeep___init__ T.fd_TooDeep___init__ ["self", "rounds"] (spIn K "rounds") := by
  refine FunD.ok T.F_TooDeep___init__ sc_TooDeep___init__ (spIn_len rfl) (fun cdv A fr s H vs Q E hr h => ⟨_, (pss_one (ps_ost (pv 0) (pv 1))), ?_⟩)
  obtain ⟨a, C, v, rfl, ox, no, ha, q⟩ := h
  exact ⟨_, rfl, _, rfl, a, C, rfl, ox, no, .inl ⟨ha, fun dx h1 h2 => q dx h1 h2⟩⟩
def sp_require_length (K : PySem.W.Frag) : Sp := sp1 fun a H Q _ => ∃ (n : Int), a = .int n ∧ 1 ≤ n ∧ n ≤ 10 ^ 30 ∧ Q .non H
theorem sc_require_length : FnScope ["value"] ["value"] (defScope s_require_length) := ⟨rfl, rfl, rfl, by decide +kernel, rfl, by decide +kernel, by decide +kernel⟩
theorem ok_require_length (T : Txt P w K mg base) : FnOk P w K mg base (L2.CX P w) 3 T.a_require_length T.fd_require_length ["value"] (sp_require_length K) := by
  refine FunD.ok T.F_require_length sc_require_length (fun vs H Q E h => ar1 h) (fun cdv A fr s H vs Q E hr h => ⟨_, PSs.nox (pss_one (ps_if (pt_not (pt_val (pe_call (ok_is_whole T) hr (by rfl) T.g_is_whole T.F_is_whole.kp T.b_is_whole .nil passL (pa_cons (pv 0) (pa_cons pe_int (pa_cons (pe_glob (v := .int 1000000000000000000000000000000) (by rfl) T.c_MOST_LENGTH ⟨_, rfl⟩) pa_nil)))))) (pss_one ps_never) pss_nil)), ?_⟩)
  obtain ⟨_, rfl, n, rfl, h1, h2, q⟩ := h
  walk_at "rd"
  unfold sp_is_whole
  walk_at "rd"
  refine ⟨some n, rfl, ?_⟩
  have e : whole (some n) 1 1000000000000000000000000000000 = true := by unfold whole; exact decide_eq_true ⟨h1, by omega⟩
  rw [e]
  exact iteTF q
/-! ### reaches -/
def sp_require_slots (K : PySem.W.Frag) : Sp := sp1 fun a H Q _ => ∃ (n : Int), a = .int n ∧ 1 ≤ n ∧ n ≤ 100 ∧ Q .non H
theorem sc_require_slots : FnScope ["value"] ["value"] (defScope s_require_slots) := ⟨rfl, rfl, rfl, by decide +kernel, rfl, by decide +kernel, by decide +kernel⟩
theorem ok_require_slots (T : Txt P w K mg base) : FnOk P w K mg base (L2.CX P w) 3 T.a_require_slots T.fd_require_slots ["value"] (sp_require_slots K) := by
  refine FunD.ok T.F_require_slots sc_require_slots (fun vs H Q E h => ar1 h) (fun cdv A fr s H vs Q E hr h => ⟨_, PSs.nox (pss_one (ps_if (pt_not (pt_val (pe_call (ok_is_whole T) hr (by rfl) T.g_is_whole T.F_is_whole.kp T.b_is_whole .nil passL (pa_cons (pv 0) (pa_cons pe_int (pa_cons (pe_glob (v := .int 100) (by rfl) T.c_MOST_SLOTS ⟨_, rfl⟩) pa_nil)))))) (pss_one ps_never) pss_nil)), ?_⟩)
  obtain ⟨_, rfl, n, rfl, h1, h2, q⟩ := h
  walk_at "rd"
  unfold sp_is_whole
  walk_at "rd"
  refine ⟨some n, rfl, ?_⟩
  have e : whole (some n) 1 100 = true := by unfold whole; exact decide_eq_true ⟨h1, h2⟩
  rw [e]
  exact iteTF q
def sp_require_task (K : PySem.W.Frag) : Sp := sp2 fun a b H Q _ => ∃ (n s : Int), a = .int n ∧ b = .int s ∧ 1 ≤ n ∧ n ≤ 10 ^ 30 ∧ 1 ≤ s ∧ s ≤ 100 ∧ Q .non H
theorem sc_require_task : FnScope ["length", "slots"] ["length", "slots"] (defScope s_require_task) := ⟨rfl, rfl, rfl, by decide +kernel, rfl, by decide +kernel, by decide +kernel⟩
theorem ok_require_task (T : Txt P w K mg base) : FnOk P w K mg base (L2.CX P w) 4 T.a_require_task T.fd_require_task ["length", "slots"] (sp_require_task K) := by
  refine FunD.ok T.F_require_task sc_require_task (fun vs H Q E h => ar2 h) (fun cdv A fr s H vs Q E hr h => ⟨_, PSs.nox (pss_cons (ps_expr (pe_call (ok_require_length T) hr (by rfl) T.g_require_length T.F_require_length.kp T.b_require_length .nil passL (pa_cons (pv 0) pa_nil))) (pss_one (ps_expr (pe_call (ok_require_slots T) hr (by rfl) T.g_require_slots T.F_require_slots.kp T.b_require_slots .nil passL (pa_cons (pv 1) pa_nil))))), ?_⟩)
  obtain ⟨_, _, rfl, n, s, rfl, rfl, h1, h2, h3, h4, q⟩ := h
  walk_at "rd"
  unfold sp_require_length sp_require_slots
  walk_at "rd"
  exact ⟨h1, by omega, h3, h4, q⟩
def sp_reach_of (K : PySem.W.Frag) : Sp := sp2 fun a b H Q _ => ∃ (s r : Int), a = .int s ∧ b = .int r ∧ 0 ≤ s ∧ s ≤ 102 ∧ -1 ≤ r ∧ r ≤ 2 ^ 110 ∧ Q (.int (Rz s r)) H
theorem Rz_big {s r : Int} (h1 : s ≤ 102) (h2 : r ≤ 2 ^ 112) : Rz s r < BIG := by
  unfold Rz
  have hB := big_200
  split
  · split <;> omega
  · have h := R_le s.toNat r.toNat
    have h3 : (((r.toNat + 1) ^ s.toNat : Nat) : Int) < BIG := big_pow (a := 113) (b := 102) (by decide) (by omega) (by omega)
    omega
theorem sc_reach_of : FnScope ["slots", "rounds", "found", "turn"] ["slots", "rounds"] (defScope s_reach_of) := ⟨rfl, rfl, rfl, by decide +kernel, rfl, by decide +kernel, by decide +kernel⟩
theorem ok_reach_of (T : Txt P w K mg base) : FnOk P w K mg base (L2.CX P w) 1 T.a_reach_of T.fd_reach_of ["slots", "rounds"] (sp_reach_of K) := by
  refine FunD.ok T.F_reach_of sc_reach_of (fun vs H Q E h => ar2 h) (fun cdv A fr s H vs Q E hr h => ⟨_, PSs.nox (pss_cons (ps_set (i := 2) sc_reach_of.nd rfl (.inl rfl) pe_int) (pss_cons (ps_for PassesOwn.never rfl (pi_range2 (by rfl) T.n_range (pa_cons pe_int (pa_cons (pe_op op_add (pv 0) pe_int) pa_nil))) (pg_name (i := 3) sc_reach_of.nd rfl (.inl rfl)) (pss_one (ps_set (i := 2) sc_reach_of.nd rfl (.inl rfl) (pe_op op_divB (pe_op op_mulB (pv 2) (pe_op op_add (pv 1) (pv 3))) (pv 3))))) (pss_one (ps_ret (pv 2))))), ?_⟩)
  obtain ⟨_, _, rfl, s, r, rfl, rfl, h1, h2, h3, h4, q⟩ := h
  walk_at "rd"
  refine for_rng2 (lo := 1) (hi := s + 1) s.toNat (fun R q => by walk_at "rd"; exact q) (by omega) (by omega)
    (fun i σ H' => H' = H ∧ ∃ x, σ = [some (.int s), some (.int r), some (.int (Rz i r)), x]) ⟨rfl, none, by rw [show ((0 : Nat) : Int) = 0 by rfl, Rz_zero]⟩ ?_ ?_
  · rintro σ H' ⟨rfl, x, rfl⟩
    walk_at "rd"
    rw [show ((s.toNat : Nat) : Int) = s by omega]
    exact q
  · rintro i σ H' hi ⟨rfl, x, rfl⟩
    walk_at "rd"
    have b1 : Rz (i : Int) r < BIG := Rz_big (by omega) (by omega)
    have b2 := Rz_nonneg (i : Int) r
    have hB := big_200
    refine ⟨⟨⟨by omega, by omega⟩, by omega, by omega⟩, ⟨by omega, by omega⟩, ?_⟩
    rw [show (1 : Int) + (i : Int) = (i : Int) + 1 by omega, Rz_turn (by omega) h3]
    rfl
def sp_rounds_of (K : PySem.W.Frag) : Sp := sp2 fun a b H Q _ => ∃ (n s : Int), a = .int n ∧ b = .int s ∧ 1 ≤ n ∧ n ≤ 10 ^ 30 ∧ 1 ≤ s ∧ s ≤ 101 ∧ ∀ H', Ex H H' → Q (.int (rho n s)) H'
theorem sc_rounds_of : FnScope ["length", "slots", "low", "high", "middle"] ["length", "slots"] (defScope s_rounds_of) := ⟨rfl, rfl, rfl, by decide +kernel, rfl, by decide +kernel, by decide +kernel⟩
theorem ok_rounds_of (T : Txt P w K mg base) : FnOk P w K mg base (L2.CX P w) 2 T.a_rounds_of T.fd_rounds_of ["length", "slots"] (sp_rounds_of K) := by
  refine FunD.ok T.F_rounds_of sc_rounds_of (fun vs H Q E h => ar2 h) (fun cdv A fr s H vs Q E hr h => ⟨_, PSs.nox (pss_cons (ps_asg (pe_tup (pa_cons (pe_un un_neg pe_int) (pa_cons pe_int pa_nil))) (pg_tupT (n := 2) rfl (pgs_cons (pg_name (i := 2) sc_rounds_of.nd rfl (.inl rfl)) (pgs_cons (pg_name (i := 3) sc_rounds_of.nd rfl (.inl rfl)) pgs_nil)))) (pss_cons (ps_while PassesOwn.never (pt_cmpR op_lt (pe_call (ok_reach_of T) hr (by rfl) T.g_reach_of T.F_reach_of.kp T.b_reach_of .nil passL (pa_cons (pv 1) (pa_cons (pv 3) pa_nil))) (pv 0) (nomark _)) (pss_one (ps_par (i := 2) (j := 3) (by rfl) sc_rounds_of.nd rfl rfl (by decide) rfl rfl (pa_cons (pv 3) (pa_cons (pe_op op_mulB pe_int (pv 3)) pa_nil)) (by rfl)))) (pss_cons (ps_while PassesOwn.never (pt_cmpR op_gt (pe_op op_sub (pv 3) (pv 2)) pe_int (nomark _)) (pss_cons (ps_set (i := 4) sc_rounds_of.nd rfl (.inl rfl) (pe_op op_divB (pe_op op_add (pv 2) (pv 3)) pe_int)) (pss_one (ps_if (pt_cmpR op_lt (pe_call (ok_reach_of T) hr (by rfl) T.g_reach_of T.F_reach_of.kp T.b_reach_of .nil passL (pa_cons (pv 1) (pa_cons (pv 4) pa_nil))) (pv 0) (nomark _)) (pss_one (ps_set (i := 2) sc_rounds_of.nd rfl (.inl rfl) (pv 4))) (pss_one (ps_set (i := 3) sc_rounds_of.nd rfl (.inl rfl) (pv 4))))))) (pss_one (ps_ret (pv 3)))))), ?_⟩)
  obtain ⟨_, _, rfl, n, s, rfl, rfl, h1, h2, h3, h4, q⟩ := h
  walk_at "rd"
  intro p hp
  refine ⟨fun m σ H' => Ex H H' ∧ ∃ low high x, σ = [some (.int n), some (.int s), some (.int low), some (.int high), x] ∧ -1 ≤ low ∧ low < high ∧ 1 ≤ high ∧ high ≤ 2 * n ∧ Rz s low < n ∧ m = (2 * n - high).toNat,
    ⟨_, exn hp, -1, 1, _, rfl, by omega, by omega, by omega, by omega, by rw [Rz_neg (by omega)]; omega, rfl⟩, ?_⟩
  rintro m σ H' ⟨eH, low, high, x, rfl, l1, l2, l3, l4, l5, rfl⟩
  walk_at "rd"
  unfold sp_reach_of
  walk_at "rd"
  refine ⟨by omega, by omega, by omega, by omega, ?_⟩
  refine ite2 (fun hlt => ?_) (fun hge => ?_)
  · have hg := Rz_gt (s := s) (r := high) h3 (by omega)
    refine ⟨fun σ' H'' => H'' = H' ∧ ∃ low' high' x', σ' = [some (.int n), some (.int s), some (.int low'), some (.int high'), x'] ∧ -1 ≤ low' ∧ low' < high' ∧ 1 ≤ high' ∧ high' ≤ 2 * n ∧ Rz s low' < n ∧ high < high',
      fun σ' H'' ⟨e, low', high', x', e1, e2, e3, e4, e5, e6, e7⟩ => ⟨_, ?_, by rw [e]; exact eH, low', high', x', e1, e2, e3, e4, e5, e6, rfl⟩, ?_, ?_⟩
    · omega
    · unfold CMulB; have hB := big_200; omega
    · refine ⟨rfl, high, 2 * high, x, rfl, by omega, by omega, by omega, by omega, hlt, by omega⟩
  · refine ⟨fun m σ H'' => H'' = H' ∧ ∃ low high x, σ = [some (.int n), some (.int s), some (.int low), some (.int high), x] ∧ -1 ≤ low ∧ low < high ∧ high ≤ 2 * n ∧ Rz s low < n ∧ n ≤ Rz s high ∧ m = (high - low).toNat,
      ⟨_, rfl, low, high, x, rfl, l1, l2, l4, l5, by omega, rfl⟩, ?_⟩
    rintro m σ H'' ⟨rfl, low, high, x, rfl, l1, l2, l4, l5, l6, rfl⟩
    walk_at "rd"
    refine ite2 (fun hlt => ?_) (fun hge => ?_)
    · refine ⟨fun σ' H' => H' = H'' ∧ ∃ low' high' x', σ' = [some (.int n), some (.int s), some (.int low'), some (.int high'), x'] ∧ -1 ≤ low' ∧ low' < high' ∧ high' ≤ 2 * n ∧ Rz s low' < n ∧ n ≤ Rz s high' ∧ high' - low' < high - low,
        fun σ' H' ⟨e, low', high', x', e1, e2, e3, e5, e6, e7, e8⟩ => ⟨_, ?_, e, low', high', x', e1, e2, e3, e5, e6, e7, rfl⟩, ?_⟩
      · omega
      · unfold CDivB
        refine ⟨by omega, by omega, by omega, by omega, by omega, ?_⟩
        refine ite2 (fun h => ?_) (fun h => ?_)
        · exact ⟨rfl, (low + high) / 2, high, _, rfl, by omega, by omega, by omega, h, l6, by omega⟩
        · exact ⟨rfl, low, (low + high) / 2, _, rfl, by omega, by omega, by omega, l5, by omega, by omega⟩
    · have e : rho n s = high := rho_eq h1 h3 (by omega) l6 (by rw [show high - 1 = low by omega]; exact l5)
      rw [e] at q
      exact q _ eH
theorem tz_lt_big {n s : Int} (hn : 1 ≤ n) (h2 : n ≤ 10 ^ 30) (hs : 1 ≤ s) (hs2 : s ≤ 101) : tz n s ≤ n * n := by
  have h0 := rho_nonneg n s
  have h1 := rho_lt (n := n) (s := s) hn hs
  have h3 := Rz_nonneg (s + 1) (rho n s - 1)
  have h4 : rho n s * n ≤ n * n := Int.mul_le_mul_of_nonneg_right (by omega) (by omega)
  unfold tz
  omega
theorem sq_big {n : Int} (hn : 0 ≤ n) (h2 : n ≤ 10 ^ 30) : n * n ≤ 10 ^ 60 := by
  calc n * n ≤ 10 ^ 30 * n := Int.mul_le_mul_of_nonneg_right h2 hn
    _ ≤ 10 ^ 30 * 10 ^ 30 := Int.mul_le_mul_of_nonneg_left h2 (by decide)
    _ = 10 ^ 60 := by decide
def sp_steps_with (K : PySem.W.Frag) : Sp := sp3 fun a b c H Q _ => ∃ (n s : Int), a = .int n ∧ b = .int s ∧ c = .int (rho n s) ∧ 1 ≤ n ∧ n ≤ 10 ^ 30 ∧ 1 ≤ s ∧ s ≤ 101 ∧ Q (.int (tz n s)) H
theorem sc_steps_with : FnScope ["length", "slots", "rounds"] ["length", "slots", "rounds"] (defScope s_steps_with) := ⟨rfl, rfl, rfl, by decide +kernel, rfl, by decide +kernel, by decide +kernel⟩
theorem ok_steps_with (T : Txt P w K mg base) : FnOk P w K mg base (L2.CX P w) 2 T.a_steps_with T.fd_steps_with ["length", "slots", "rounds"] (sp_steps_with K) := by
  refine FunD.ok T.F_steps_with sc_steps_with (fun vs H Q E h => ar3 h) (fun cdv A fr s H vs Q E hr h => ⟨_, PSs.nox (pss_one (ps_ret (pe_op op_sub (pe_op op_mulB (pv 2) (pv 0)) (pe_call (ok_reach_of T) hr (by rfl) T.g_reach_of T.F_reach_of.kp T.b_reach_of .nil passL (pa_cons (pe_op op_add (pv 1) pe_int) (pa_cons (pe_op op_sub (pv 2) pe_int) pa_nil)))))), ?_⟩)
  obtain ⟨_, _, _, rfl, n, s, rfl, rfl, rfl, h1, h2, h3, h4, q⟩ := h
  walk_at "rd"
  unfold sp_reach_of
  walk_at "rd"
  have r0 := rho_nonneg n s
  have r1 := rho_lt (n := n) (s := s) h1 h3
  exact ⟨by walk_at "ar", by omega, by omega, by omega, by omega, q⟩
def sp_least_of (K : PySem.W.Frag) : Sp := sp2 fun a b H Q _ => ∃ (n s : Int), a = .int n ∧ b = .int s ∧ 1 ≤ n ∧ n ≤ 10 ^ 30 ∧ 1 ≤ s ∧ s ≤ 101 ∧ ∀ H', Ex H H' → Q (.int (tz n s)) H'
theorem sc_least_of : FnScope ["length", "slots"] ["length", "slots"] (defScope s_least_of) := ⟨rfl, rfl, rfl, by decide +kernel, rfl, by decide +kernel, by decide +kernel⟩
theorem ok_least_of (T : Txt P w K mg base) : FnOk P w K mg base (L2.CX P w) 3 T.a_least_of T.fd_least_of ["length", "slots"] (sp_least_of K) := by
  refine FunD.ok T.F_least_of sc_least_of (fun vs H Q E h => ar2 h) (fun cdv A fr s H vs Q E hr h => ⟨_, PSs.nox (pss_one (ps_ret (pe_call (ok_steps_with T) hr (by rfl) T.g_steps_with T.F_steps_with.kp T.b_steps_with .nil passL (pa_cons (pv 0) (pa_cons (pv 1) (pa_cons (pe_call (ok_rounds_of T) hr (by rfl) T.g_rounds_of T.F_rounds_of.kp T.b_rounds_of .nil passL (pa_cons (pv 0) (pa_cons (pv 1) pa_nil))) pa_nil)))))), ?_⟩)
  obtain ⟨_, _, rfl, n, s, rfl, rfl, h1, h2, h3, h4, q⟩ := h
  walk_at "rd"
  unfold sp_rounds_of sp_steps_with
  walk_at "rd"
  exact ⟨h1, h2, h3, h4, fun H' e => ⟨h1, by omega, h3, h4, q H' e⟩⟩
def sp_least_steps (K : PySem.W.Frag) : Sp := sp2 fun a b H Q _ => ∃ (n s : Int), a = .int n ∧ b = .int s ∧ 1 ≤ n ∧ n ≤ 10 ^ 30 ∧ 1 ≤ s ∧ s ≤ 100 ∧ ∀ H', Ex H H' → Q (.int (tz n s)) H'
theorem sc_least_steps : FnScope ["length", "slots"] ["length", "slots"] (defScope s_least_steps) := ⟨rfl, rfl, rfl, by decide +kernel, rfl, by decide +kernel, by decide +kernel⟩
theorem ok_least_steps (T : Txt P w K mg base) : FnOk P w K mg base (L2.CX P w) 5 T.a_least_steps T.fd_least_steps ["length", "slots"] (sp_least_steps K) := by
  refine FunD.ok T.F_least_steps sc_least_steps (fun vs H Q E h => ar2 h) (fun cdv A fr s H vs Q E hr h => ⟨_, PSs.nox (pss_cons (ps_expr (pe_call (ok_require_task T) hr (by rfl) T.g_require_task T.F_require_task.kp T.b_require_task .nil passL (pa_cons (pv 0) (pa_cons (pv 1) pa_nil)))) (pss_one (ps_ret (pe_call (ok_least_of T) (hr.mono (by decide)) (by rfl) T.g_least_of T.F_least_of.kp T.b_least_of .nil passL (pa_cons (pv 0) (pa_cons (pv 1) pa_nil)))))), ?_⟩)
  obtain ⟨_, _, rfl, n, s, rfl, rfl, h1, h2, h3, h4, q⟩ := h
  walk_at "rd"
  unfold sp_require_task sp_least_of
  walk_at "rd"
  exact ⟨h1, h2, h3, h4, h1, h2, h3, by omega, q⟩
/-! ### parts of plans -/
theorem Rz_med {s r : Int} (h1 : s ≤ 102) (h2 : r ≤ 1100) : Rz s r < MED := by
  unfold Rz
  have hB := med_200
  split
  · split <;> omega
  · have h := R_le s.toNat r.toNat
    have h3 : (((r.toNat + 1) ^ s.toNat : Nat) : Int) < MED := med_pow (a := 11) (b := 102) (by decide) (by omega) (by omega)
    omega
theorem med_big : MED ≤ BIG := by
  unfold MED BIG
  have h : (2 : Nat) ^ 1900 ≤ 2 ^ 100000 := Nat.pow_le_pow_right (by decide) (by decide)
  have h2 : ((2 ^ 1900 : Nat) : Int) ≤ ((2 ^ 100000 : Nat) : Int) := Int.ofNat_le.mpr h
  rw [Int.natCast_pow, Int.natCast_pow] at h2
  exact h2
/-- a task of not too many rounds -/
def PB (n s : Int) : Prop := 1 ≤ n ∧ n ≤ 10 ^ 30 ∧ 1 ≤ s ∧ s ≤ 100 ∧ rho n s ≤ 1000
theorem PB.rest {n s : Int} (h : PB n s) (hn : 2 ≤ n) (hs : 2 ≤ s) : PB (n - hiz n s) (s - 1) := by
  obtain ⟨a, b, c⟩ := loz_range hn hs
  have r := rest_rho hn hs
  obtain ⟨h1, h2, h3, h4, h5⟩ := h
  refine ⟨by omega, by omega, by omega, by omega, ?_⟩
  rw [r]
  split <;> omega
theorem PB.ahead {n s : Int} (h : PB n s) (hn : 2 ≤ n) (hs : 2 ≤ s) : PB (hiz n s) s := by
  obtain ⟨a, b, c⟩ := loz_range hn hs
  have r := ahead_rho hn hs
  obtain ⟨h1, h2, h3, h4, h5⟩ := h
  refine ⟨by omega, by omega, by omega, by omega, ?_⟩
  rw [r]
  split <;> omega
theorem PB.big {n s : Int} (h : PB n s) : 0 ≤ rho n s ∧ 0 ≤ Rz s (rho n s) ∧ Rz s (rho n s) < BIG ∧ 10 ^ 200 < BIG := by
  obtain ⟨h1, h2, h3, h4, h5⟩ := h
  have a := Rz_med (s := s) (r := rho n s) (by omega) (by omega)
  have b := med_big
  have c := big_200
  have d := med_200
  refine ⟨rho_nonneg _ _, Rz_nonneg _ _, by omega, ?_⟩
  have e : (10 : Int) ^ 200 < MED := by
    unfold MED
    have h : (10 : Nat) ^ 200 < 2 ^ 1900 := by
      calc (10 : Nat) ^ 200 < 16 ^ 200 := Nat.pow_lt_pow_left (by decide) (by decide)
        _ = 2 ^ 800 := by rw [show (16 : Nat) = 2 ^ 4 by rfl, ← Nat.pow_mul]
        _ ≤ 2 ^ 1900 := Nat.pow_le_pow_right (by decide) (by decide)
    have h2 : ((10 ^ 200 : Nat) : Int) < ((2 ^ 1900 : Nat) : Int) := Int.ofNat_lt.mpr h
    rw [Int.natCast_pow, Int.natCast_pow] at h2
    exact h2
  omega
def sp_closed_count (K : PySem.W.Frag) : Sp := sp1 fun x H Q _ => ∃ (a : Addr) (n s : Int), x = .ref a ∧ H a = some (.tup ((partT n s).map V.int)) ∧ PB n s ∧ (Full n s → Q (.int (opsN n s)) H) ∧ (¬ Full n s → Q .non H)
theorem sc_closed_count : FnScope ["some", "length", "slots", "rounds", "reached"] ["some"] (defScope s_closed_count) := ⟨rfl, rfl, rfl, by decide +kernel, rfl, by decide +kernel, by decide +kernel⟩
theorem ok_closed_count (T : Txt P w K mg base) : FnOk P w K mg base (L2.CX P w) 1 T.a_closed_count T.fd_closed_count ["some"] (sp_closed_count K) := by
  refine FunD.ok T.F_closed_count sc_closed_count (fun vs H Q E h => ar1 h) (fun cdv A fr s H vs Q E hr h => ⟨_, PSs.nox (pss_cons (ps_asg (pv 0) (pg_tupT (n := 4) rfl (pgs_cons (pg_name (i := 1) sc_closed_count.nd rfl (.inl rfl)) (pgs_cons (pg_name (i := 2) sc_closed_count.nd rfl (.inl rfl)) (pgs_cons (pg_name (i := 3) sc_closed_count.nd rfl (.inl rfl)) (pgs_cons (pg_name (i := 4) sc_closed_count.nd rfl (.inl rfl)) pgs_nil)))))) (pss_cons (ps_if (pt_cmpR op_eq (pv 1) (pv 4) (nomark _)) (pss_one (ps_ret (pe_op op_sub (pe_op op_add (pe_op op_mulB pe_int (pv 4)) (pe_op op_mulB pe_int (pe_op op_divB (pe_op op_mulB (pv 4) (pv 2)) (pe_op op_add (pv 2) (pv 3))))) pe_int))) pss_nil) (pss_one (ps_ret (pe_ifExp (pt_cmpR op_eq (pv 2) pe_int (nomark _)) (pe_op op_sub (pe_op op_mulB pe_int (pv 1)) pe_int) pe_non))))), ?_⟩)
  obtain ⟨_, rfl, a, n, s, rfl, ha, hb, q1, q2⟩ := h
  walk_at "rd"
  simp only [ha, partT]
  walk_at "rd"
  obtain ⟨b1, b2, b3, b4⟩ := hb.big
  obtain ⟨h1, h2, h3, h4, h5⟩ := hb
  refine ite2 (fun h => ?_) fun h => ?_
  · have t := term_slots (s := s) (r := rho n s) (by omega) b1
    have c := opsN_closed (s := s) (r := rho n s) (by omega) b1
    have q := q1 h
    have nn : 0 ≤ Rz (s - 1) (rho n s) ∧ Rz (s - 1) (rho n s) < BIG := by
      have a := Rz_med (s := s - 1) (r := rho n s) (by omega) (by omega)
      have b := med_big
      exact ⟨Rz_nonneg _ _, by omega⟩
    rw [t]
    refine ⟨by unfold CMulB; omega, by unfold CMulB; omega, by unfold CDivB; omega, by unfold CMulB; omega, ?_⟩
    rw [← h] at c
    rw [show 3 * Rz s (rho n s) + 2 * Rz (s - 1) (rho n s) - 4 = opsN n s by rw [← h]; omega]
    exact q
  · refine ite2 (fun e => ?_) fun e => q2 h
    subst e
    exact absurd (full_row h1 h3 (.inr (by omega))) h
def sp_halves_of (K : PySem.W.Frag) : Sp := sp1 fun x H Q _ => ∃ (a : Addr) (n s : Int), x = .ref a ∧ H a = some (.tup ((partT n s).map V.int)) ∧ PB n s ∧ 2 ≤ n ∧ 2 ≤ s ∧
  ∀ p b c H', H p = none → Ex H H' → H' p = some (.tup [.int (hiz n s), .ref b, .ref c]) → H' b = some (.tup ((partT (n - hiz n s) (s - 1)).map V.int)) → H' c = some (.tup ((partT (hiz n s) s).map V.int)) → Q (.ref p) H'
theorem sc_halves_of : FnScope ["some", "length", "slots", "rounds", "reached", "less", "least", "other", "fewer", "split", "behind", "ahead"] ["some"] (defScope s_halves_of) := ⟨rfl, rfl, rfl, by decide +kernel, rfl, by decide +kernel, by decide +kernel⟩
theorem ok_halves_of (T : Txt P w K mg base) : FnOk P w K mg base (L2.CX P w) 1 T.a_halves_of T.fd_halves_of ["some"] (sp_halves_of K) := by
  refine FunD.ok T.F_halves_of sc_halves_of (fun vs H Q E h => ar1 h) (fun cdv A fr s H vs Q E hr h => ⟨_, PSs.nox (Evl.pss_cut (ps_asg (pv 0) (pg_tupT (n := 4) rfl (pgs_cons (pg_name (i := 1) sc_halves_of.nd rfl (.inl rfl)) (pgs_cons (pg_name (i := 2) sc_halves_of.nd rfl (.inl rfl)) (pgs_cons (pg_name (i := 3) sc_halves_of.nd rfl (.inl rfl)) (pgs_cons (pg_name (i := 4) sc_halves_of.nd rfl (.inl rfl)) pgs_nil)))))) (Evl.pss_cut (ps_set (i := 5) sc_halves_of.nd rfl (.inl rfl) (pe_op op_divB (pe_op op_mulB (pv 4) (pv 3)) (pe_op op_add (pv 2) (pv 3)))) (Evl.pss_cut (ps_set (i := 6) sc_halves_of.nd rfl (.inl rfl) (pe_op op_divB (pe_op op_mulB (pv 5) (pe_op op_sub (pv 3) pe_int)) (pe_op op_sub (pe_op op_add (pv 2) (pv 3)) pe_int))) (Evl.pss_cut (ps_par (i := 7) (j := 8) (by rfl) sc_halves_of.nd rfl rfl (by decide) rfl rfl (pa_cons (pe_op op_sub (pv 4) (pv 5)) (pa_cons (pe_op op_sub (pv 5) (pv 6)) pa_nil)) (by rfl)) (Evl.pss_cut (ps_set (i := 9) sc_halves_of.nd rfl (.inl rfl) (pe_callB (call_min3 rfl) (by rfl) T.n_min (by decide +kernel) (pa_cons (pe_op op_sub (pv 1) pe_int) (pa_cons (pv 5) (pa_cons (pe_op op_sub (pv 1) (pv 8)) pa_nil))))) (pss_cons (ps_set (i := 10) sc_halves_of.nd rfl (.inl rfl) (pe_tup (pa_cons (pe_op op_sub (pv 1) (pv 9)) (pa_cons (pe_op op_sub (pv 2) pe_int) (pa_cons (pv 3) (pa_cons (pv 7) pa_nil)))))) (pss_cons (ps_if (pt_cmpR op_eq (pe_op op_sub (pv 1) (pv 9)) (pv 8) (nomark _)) (pss_one (ps_set (i := 10) sc_halves_of.nd rfl (.inl rfl) (pe_tup (pa_cons (pv 8) (pa_cons (pe_op op_sub (pv 2) pe_int) (pa_cons (pe_op op_sub (pv 3) pe_int) (pa_cons (pv 8) pa_nil))))))) pss_nil) (pss_cons (ps_set (i := 11) sc_halves_of.nd rfl (.inl rfl) (pe_tup (pa_cons (pv 9) (pa_cons (pv 2) (pa_cons (pe_op op_sub (pv 3) pe_int) (pa_cons (pv 5) pa_nil)))))) (pss_one (ps_ret (pe_tup (pa_cons (pv 9) (pa_cons (pv 10) (pa_cons (pe_ifExp (pt_cmpR op_eq (pv 9) (pv 6) (nomark _)) (pe_tup (pa_cons (pv 6) (pa_cons (pv 2) (pa_cons (pe_op op_sub (pv 3) pe_int) (pa_cons (pv 6) pa_nil))))) (pv 11)) pa_nil)))))))))))))), ?_⟩)
  obtain ⟨_, rfl, a, n, s, rfl, ha, hb, hn, hs, q⟩ := h
  obtain ⟨b1, b2, b3, b4⟩ := hb.big
  have hr := rho_pos (n := n) (s := s) hn (by omega)
  obtain ⟨l1, l2, l3⟩ := loz_range hn hs
  obtain ⟨h1, h2, h3, h4, h5⟩ := hb
  have t1 := term_less (s := s) (r := rho n s) (by omega) b1
  have t2 := term_less (s := s) (r := rho n s - 1) (by omega) (by omega)
  have m1 : 0 ≤ Rz s (rho n s - 1) ∧ Rz s (rho n s - 1) < BIG := by
    have a := Rz_med (s := s) (r := rho n s - 1) (by omega) (by omega)
    have b := med_big
    exact ⟨Rz_nonneg _ _, by omega⟩
  have e1 := Rz_next (s := s - 1) (r := rho n s) (by omega) (by omega)
  have e2 := Rz_next (s := s - 1) (r := rho n s - 1) (by omega) (by omega)
  rw [show s - 1 + 1 = s by omega] at e1 e2
  rw [show rho n s - 1 - 1 = rho n s - 2 by omega] at e2 t2
  refine Evl.q_cut (M := fun σ' H' => σ' = [some (.ref a), some (.int n), some (.int s), some (.int (rho n s)), some (.int (Rz s (rho n s))), none, none, none, none, none, none, none] ∧ H = H') ?_ ?_
  · walk_at "rd"
    simp only [ha, partT]
    walk_at "rd"
  rintro σ _ ⟨rfl, rfl⟩
  refine Evl.q_cut (M := fun σ' H' => σ' = [some (.ref a), some (.int n), some (.int s), some (.int (rho n s)), some (.int (Rz s (rho n s))), some (.int (Rz s (rho n s - 1))), none, none, none, none, none, none] ∧ H = H') ?_ ?_
  · walk_at "rd"
    rw [t1]
    exact ⟨by unfold CMulB; omega, by unfold CDivB; omega, rfl⟩
  rintro σ _ ⟨rfl, rfl⟩
  refine Evl.q_cut (M := fun σ' H' => σ' = [some (.ref a), some (.int n), some (.int s), some (.int (rho n s)), some (.int (Rz s (rho n s))), some (.int (Rz s (rho n s - 1))), some (.int (Rz s (rho n s - 2))), none, none, none, none, none] ∧ H = H') ?_ ?_
  · walk_at "rd"
    rw [show s + rho n s - 1 = s + (rho n s - 1) by omega, t2]
    exact ⟨by unfold CMulB; omega, by unfold CDivB; omega, rfl⟩
  rintro σ _ ⟨rfl, rfl⟩
  refine Evl.q_cut (M := fun σ' H' => σ' = [some (.ref a), some (.int n), some (.int s), some (.int (rho n s)), some (.int (Rz s (rho n s))), some (.int (Rz s (rho n s - 1))), some (.int (Rz s (rho n s - 2))), some (.int (Rz (s - 1) (rho n s))), some (.int (Rz (s - 1) (rho n s - 1))), none, none, none] ∧ H = H') ?_ ?_
  · walk_at "rd"
    exact ⟨by omega, by omega⟩
  rintro σ _ ⟨rfl, rfl⟩
  refine Evl.q_cut (M := fun σ' H' => σ' = [some (.ref a), some (.int n), some (.int s), some (.int (rho n s)), some (.int (Rz s (rho n s))), some (.int (Rz s (rho n s - 1))), some (.int (Rz s (rho n s - 2))), some (.int (Rz (s - 1) (rho n s))), some (.int (Rz (s - 1) (rho n s - 1))), some (.int (hiz n s)), none, none] ∧ H = H') ?_ ?_
  · walk_at "rd"
    unfold hiz
    exact rfl
  rintro σ _ ⟨rfl, rfl⟩
  walk_at "rd"
  have tail : ∀ (H1 : Hp) (b : Addr), Ex H H1 → H1 b = some (.tup ((restT n s).map V.int)) → ∀ p2, H1 p2 = none → (if hiz n s = Rz s (rho n s - 2) then ∀ p3, (upd H1 p2 (.tup [.int (hiz n s), .int s, .int (rho n s - 1), .int (Rz s (rho n s - 1))])) p3 = none → ∀ p4, (upd (upd H1 p2 (.tup [.int (hiz n s), .int s, .int (rho n s - 1), .int (Rz s (rho n s - 1))])) p3 (.tup [.int (Rz s (rho n s - 2)), .int s, .int (rho n s - 2), .int (Rz s (rho n s - 2))])) p4 = none →
        Q (.ref p4) (upd (upd (upd H1 p2 (.tup [.int (hiz n s), .int s, .int (rho n s - 1), .int (Rz s (rho n s - 1))])) p3 (.tup [.int (Rz s (rho n s - 2)), .int s, .int (rho n s - 2), .int (Rz s (rho n s - 2))])) p4 (.tup [.int (hiz n s), .ref b, .ref p3]))
      else ∀ p3, (upd H1 p2 (.tup [.int (hiz n s), .int s, .int (rho n s - 1), .int (Rz s (rho n s - 1))])) p3 = none → Q (.ref p3) (upd (upd H1 p2 (.tup [.int (hiz n s), .int s, .int (rho n s - 1), .int (Rz s (rho n s - 1))])) p3 (.tup [.int (hiz n s), .ref b, .ref p2]))) := by
    intro H1 b e hb p2 hp2
    have fin : ∀ (c p : Addr) (H2 : Hp), Ex H1 H2 → H2 p = none → H2 c = some (.tup ((aheadT n s).map V.int)) → Q (.ref p) (upd H2 p (.tup [.int (hiz n s), .ref b, .ref c])) := by
      intro c p H2 e2 hp hc
      have hb2 := e2 _ _ hb
      rw [restT_eq hn hs] at hb2
      rw [aheadT_eq hn hs] at hc
      exact q p b c _ (Evl.fresh_back (e.trans e2) hp) ((e.trans e2).trans (exn hp)) upd_same (exn hp _ _ hb2) (exn hp _ _ hc)
    refine ite2 (fun h p3 hp3 p4 hp4 => ?_) fun h p3 hp3 => ?_
    · exact fin p3 p4 _ ((exn hp2).trans (exn hp3)) hp4 (by unfold aheadT; rw [upd_same, if_pos h]; rfl)
    · exact fin p2 p3 _ (exn hp2) hp3 (by unfold aheadT; rw [upd_same, if_neg h]; rfl)
  intro p hp
  refine ite2 (fun h p1 hp1 => ?_) fun h => ?_
  · exact tail _ p1 ((exn hp).trans (exn hp1)) (by unfold restT; rw [upd_same, if_pos h]; rfl)
  · exact tail _ p (exn hp) (by unfold restT; rw [upd_same, if_neg h]; rfl)
def sp_own_operations (K : PySem.W.Frag) : Sp := sp1 fun x H Q _ => ∃ (a : Addr) (m : Int) (r : List V), x = .ref a ∧ H a = some (.tup (.int m :: r)) ∧ Q (.int (if m > 1 then 4 else 2)) H
theorem sc_own_operations : FnScope ["behind"] ["behind"] (defScope s_own_operations) := ⟨rfl, rfl, rfl, by decide +kernel, rfl, by decide +kernel, by decide +kernel⟩
theorem ok_own_operations (T : Txt P w K mg base) : FnOk P w K mg base (L2.CX P w) 1 T.a_own_operations T.fd_own_operations ["behind"] (sp_own_operations K) := by
  refine FunD.ok T.F_own_operations sc_own_operations (fun vs H Q E h => ar1 h) (fun cdv A fr s H vs Q E hr h => ⟨_, PSs.nox (pss_one (ps_ret (pe_ifExp (pt_cmpR op_gt (pe_ix ix_tupT (pv 0) pe_int (fun _ _ => rfl)) pe_int (nomark _)) pe_int pe_int))), ?_⟩)
  obtain ⟨_, rfl, a, m, r, rfl, ha, q⟩ := h
  walk_at "rd"
  refine ⟨_, ha, ?_⟩
  walk_at "rd"
  by_cases h : 1 < m
  · rw [if_pos h] at *
    exact q
  · rw [if_neg h] at *
    exact q
def sp_count_of (K : PySem.W.Frag) : Sp := sp1 fun x H Q _ => ∃ (a : Addr) (n s : Int), x = .ref a ∧ H a = some (.tup ((partT n s).map V.int)) ∧ PB n s ∧ ∀ H', Ex H H' → Q (.int (opsN n s)) H'
theorem sc_count_of : FnScope ["some", "found", "left", "split", "behind", "ahead"] ["some"] (defScope s_count_of) := ⟨rfl, rfl, rfl, by decide +kernel, rfl, by decide +kernel, by decide +kernel⟩
theorem ok_count_of (T : Txt P w K mg base) : FnOk P w K mg base (L2.CX P w) 2 T.a_count_of T.fd_count_of ["some"] (sp_count_of K) := by
  refine FunD.ok T.F_count_of sc_count_of (fun vs H Q E h => ar1 h) (fun cdv A fr s H vs Q E hr h => ⟨_, PSs.nox (pss_cons (ps_par (i := 1) (j := 2) (by rfl) sc_count_of.nd rfl rfl (by decide) rfl rfl (pa_cons pe_int (pa_cons (pv 0) pa_nil)) (by rfl)) (pss_cons (ps_while PassesOwn.never (pt_cmpR op_isN (pe_call (ok_closed_count T) hr (by rfl) T.g_closed_count T.F_closed_count.kp T.b_closed_count .nil passL (pa_cons (pv 2) pa_nil)) pe_non (nomark _)) (pss_cons (ps_asg (pe_call (ok_halves_of T) hr (by rfl) T.g_halves_of T.F_halves_of.kp T.b_halves_of .nil passL (pa_cons (pv 2) pa_nil)) (pg_tupT (n := 3) rfl (pgs_cons (pg_name (i := 3) sc_count_of.nd rfl (.inl rfl)) (pgs_cons (pg_name (i := 4) sc_count_of.nd rfl (.inl rfl)) (pgs_cons (pg_name (i := 5) sc_count_of.nd rfl (.inl rfl)) pgs_nil))))) (pss_cons (ps_aug (i := 1) sc_count_of.nd rfl (.inl rfl) (pe_call (ok_own_operations T) hr (by rfl) T.g_own_operations T.F_own_operations.kp T.b_own_operations .nil passL (pa_cons (pv 4) pa_nil)) ip_add) (pss_one (ps_if (pt_cmpR op_isN (pe_call (ok_closed_count T) hr (by rfl) T.g_closed_count T.F_closed_count.kp T.b_closed_count .nil passL (pa_cons (pv 4) pa_nil)) pe_non (nomark _)) (pss_one (ps_par (i := 1) (j := 2) (by rfl) sc_count_of.nd rfl rfl (by decide) rfl rfl (pa_cons (pe_op op_add (pv 1) (pe_call (ok_closed_count T) hr (by rfl) T.g_closed_count T.F_closed_count.kp T.b_closed_count .nil passL (pa_cons (pv 5) pa_nil))) (pa_cons (pv 4) pa_nil)) (by rfl))) (pss_one (ps_par (i := 1) (j := 2) (by rfl) sc_count_of.nd rfl rfl (by decide) rfl rfl (pa_cons (pe_op op_add (pv 1) (pe_call (ok_closed_count T) hr (by rfl) T.g_closed_count T.F_closed_count.kp T.b_closed_count .nil passL (pa_cons (pv 4) pa_nil))) (pa_cons (pv 5) pa_nil)) (by rfl)))))))) (pss_one (ps_ret (pe_op op_add (pv 1) (pe_call (ok_closed_count T) hr (by rfl) T.g_closed_count T.F_closed_count.kp T.b_closed_count .nil passL (pa_cons (pv 2) pa_nil))))))), ?_⟩)
  obtain ⟨_, rfl, a, n, s, rfl, ha, hb, q⟩ := h
  walk_at "rd"
  refine ⟨fun m σ H' => Ex H H' ∧ ∃ (f : Int) (l : Addr) (n' s' : Int) (x y z : Option V), σ = [some (.ref a), some (.int f), some (.ref l), x, y, z] ∧ H' l = some (.tup ((partT n' s').map V.int)) ∧ PB n' s' ∧ f + opsN n' s' = opsN n s ∧ m = n'.toNat,
    ⟨_, .refl _, 0, a, n, s, _, _, _, rfl, ha, hb, by omega, rfl⟩, ?_⟩
  rintro m σ H' ⟨e, f, l, n', s', x, y, z, rfl, hl, hb', hf, rfl⟩
  walk_at "rd"
  unfold sp_closed_count sp_halves_of sp_own_operations
  walk_at "rd"
  refine ⟨n', s', hl, hb', fun hF => ?_, fun hF => ?_⟩
  · exact ⟨n', s', hl, hb', fun _ => by rw [hf]; exact q _ e, fun h => absurd hF h⟩
  · have two : 2 ≤ n' ∧ 2 ≤ s' := by
      have := mt (full_row (n := n') (s := s') hb'.1 hb'.2.2.1) hF
      omega
    obtain ⟨hn, hs⟩ := two
    obtain ⟨l1, l2, l3⟩ := loz_range hn hs
    refine ⟨fun σ' H'' => Ex H H'' ∧ ∃ (f : Int) (l : Addr) (n2 s2 : Int) (x y z : Option V), σ' = [some (.ref a), some (.int f), some (.ref l), x, y, z] ∧ H'' l = some (.tup ((partT n2 s2).map V.int)) ∧ PB n2 s2 ∧ f + opsN n2 s2 = opsN n s ∧ n2.toNat < n'.toNat,
      fun σ' H'' ⟨e, f, l, n2, s2, x, y, z, e1, e2, e3, e4, e5⟩ => ⟨_, e5, e, f, l, n2, s2, x, y, z, e1, e2, e3, e4, rfl⟩, ?_⟩
    refine ⟨n', s', hl, hb', hn, hs, fun p b c H1 hp e1 h1 h2 h3 => ?_⟩
    simp only [h1]
    walk_at "rd"
    have pr := hb'.rest hn hs
    have pa := hb'.ahead hn hs
    have e2 := opsN_two hn hs
    refine ⟨_, _, h2, _, _, h2, pr, fun hF2 => ?_, fun hF2 => ?_⟩
    · refine ⟨_, _, h2, pr, fun _ => ?_, fun h => absurd hF2 h⟩
      exact ⟨e.trans e1, _, _, h3, pa, by omega, by omega⟩
    · have hF3 := (one_full hn hs).resolve_left hF2
      refine ⟨_, _, h3, pa, fun _ => ?_, fun h => absurd hF3 h⟩
      exact ⟨e.trans e1, _, _, h2, pr, by omega, by omega⟩
def planT (b n s : Int) : List Int := [b, n, s, rho n s, Rz s (rho n s), opsN n s]
def sp_parts_of (K : PySem.W.Frag) : Sp := sp1 fun x H Q _ => ∃ (a : Addr) (b n s : Int), x = .ref a ∧ H a = some (.tup ((planT b n s).map V.int)) ∧ PB n s ∧ 2 ≤ n ∧ 2 ≤ s ∧
  ∀ p c d H', H p = none → Ex H H' → H' p = some (.tup [.int (hiz n s), .ref c, .ref d]) → H' c = some (.tup ((planT (b + hiz n s) (n - hiz n s) (s - 1)).map V.int)) → H' d = some (.tup ((planT b (hiz n s) s).map V.int)) → Q (.ref p) H'
theorem sc_parts_of : FnScope ["part", "split", "behind", "ahead", "many", "rest"] ["part"] (defScope s_parts_of) := ⟨rfl, rfl, rfl, by decide +kernel, rfl, by decide +kernel, by decide +kernel⟩
theorem ok_parts_of (T : Txt P w K mg base) : FnOk P w K mg base (L2.CX P w) 2 T.a_parts_of T.fd_parts_of ["part"] (sp_parts_of K) := by
  refine FunD.ok T.F_parts_of sc_parts_of (fun vs H Q E h => ar1 h) (fun cdv A fr s H vs Q E hr h => ⟨_, PSs.nox (Evl.pss_cut (ps_asg (pe_call (ok_halves_of T) hr (by rfl) T.g_halves_of T.F_halves_of.kp T.b_halves_of .nil passL (pa_cons (pe_slice (r := rSlT K) sl_tup (pv 0) (po_some pe_int) (po_some pe_int)) pa_nil)) (pg_tupT (n := 3) rfl (pgs_cons (pg_name (i := 1) sc_parts_of.nd rfl (.inl rfl)) (pgs_cons (pg_name (i := 2) sc_parts_of.nd rfl (.inl rfl)) (pgs_cons (pg_name (i := 3) sc_parts_of.nd rfl (.inl rfl)) pgs_nil))))) (Evl.pss_cut (ps_set (i := 4) sc_parts_of.nd rfl (.inl rfl) (pe_call (ok_closed_count T) hr (by rfl) T.g_closed_count T.F_closed_count.kp T.b_closed_count .nil passL (pa_cons (pv 2) pa_nil))) (Evl.pss_cut (ps_if (pt_cmpR op_isN (pv 4) pe_non (nomark _)) (pss_one (ps_set (i := 4) sc_parts_of.nd rfl (.inl rfl) (pe_op op_sub (pe_op op_sub (pe_ix ix_tupT (pv 0) pe_int (fun _ _ => rfl)) (pe_call (ok_own_operations T) hr (by rfl) T.g_own_operations T.F_own_operations.kp T.b_own_operations .nil passL (pa_cons (pv 2) pa_nil))) (pe_call (ok_closed_count T) hr (by rfl) T.g_closed_count T.F_closed_count.kp T.b_closed_count .nil passL (pa_cons (pv 3) pa_nil))))) pss_nil) (pss_cons (ps_set (i := 5) sc_parts_of.nd rfl (.inl rfl) (pe_op op_sub (pe_op op_sub (pe_ix ix_tupT (pv 0) pe_int (fun _ _ => rfl)) (pe_call (ok_own_operations T) hr (by rfl) T.g_own_operations T.F_own_operations.kp T.b_own_operations .nil passL (pa_cons (pv 2) pa_nil))) (pv 4))) (pss_one (ps_ret (pe_tup (pa_cons (pv 1) (pa_cons (pe_tup (pa_cons (pe_op op_add (pe_ix ix_tupT (pv 0) pe_int (fun _ _ => rfl)) (pv 1)) (StX.pa_star (pv 2) (pa_cons (pv 4) pa_nil)))) (pa_cons (pe_tup (pa_cons (pe_ix ix_tupT (pv 0) pe_int (fun _ _ => rfl)) (StX.pa_star (pv 3) (pa_cons (pv 5) pa_nil)))) pa_nil)))))))))), ?_⟩)
  obtain ⟨_, rfl, a, b, n, s, rfl, ha, hb, hn, hs, q⟩ := h
  obtain ⟨l1, l2, l3⟩ := loz_range hn hs
  refine Evl.q_cut (M := fun σ' H' => ∃ c d, σ' = [some (.ref a), some (.int (hiz n s)), some (.ref c), some (.ref d), none, none] ∧ Ex H H' ∧ H' c = some (.tup ((partT (n - hiz n s) (s - 1)).map V.int)) ∧ H' d = some (.tup ((partT (hiz n s) s).map V.int))) ?_ ?_
  · unfold sp_halves_of
    walk_at "rd"
    refine ⟨_, sq_t ha, fun h => absurd h.1 (show ¬ ((1 : Nat) = 0) by decide), fun p hp => ?_⟩
    refine ⟨n, s, by rfl, hb, hn, hs, fun p2 c d H2 hp2 e2 h1 h2 h3 => ?_⟩
    simp only [h1]
    walk_at "rd"
    exact ⟨(exn hp).trans e2, h2, h3⟩
  rintro σ H1 ⟨c, d, rfl, e1, hc, hd⟩
  have ha1 := e1 _ _ ha
  have pr := hb.rest hn hs
  have pa := hb.ahead hn hs
  have e2 := opsN_two hn hs
  refine Evl.q_cut (M := fun σ' H' => σ' = [some (.ref a), some (.int (hiz n s)), some (.ref c), some (.ref d), some (if Full (n - hiz n s) (s - 1) then .int (opsN (n - hiz n s) (s - 1)) else .non), none] ∧ H1 = H') ?_ ?_
  · unfold sp_closed_count
    walk_at "rd"
    exact ⟨_, _, hc, pr, fun h => by rw [if_pos h], fun h => by rw [if_neg h]⟩
  rintro σ _ ⟨rfl, rfl⟩
  refine Evl.q_cut (M := fun σ' H' => σ' = [some (.ref a), some (.int (hiz n s)), some (.ref c), some (.ref d), some (.int (opsN (n - hiz n s) (s - 1))), none] ∧ H1 = H') ?_ ?_
  · unfold sp_closed_count sp_own_operations
    by_cases hF : Full (n - hiz n s) (s - 1)
    · rw [if_pos hF]
      walk_at "rd"
    · rw [if_neg hF]
      have hF3 := (one_full hn hs).resolve_left hF
      walk_at "rd"
      refine ⟨_, ha1, _, atI_5, ?_⟩
      walk_at "rd"
      refine ⟨_, _, hc, _, _, hd, pa, fun _ => ?_, fun h => absurd hF3 h⟩
      rw [e2]
      omega
  rintro σ _ ⟨rfl, rfl⟩
  unfold sp_own_operations
  walk_at "rd"
  refine ⟨_, ha1, _, atI_5, _, _, hc, ?_⟩
  walk_at "rd"
  refine ⟨_, ha1, _, atI_0, ?_⟩
  walk_at "rd"
  refine ⟨_, .inl (sq_t hc), by simp [partT], fun p hp => ?_⟩
  have e3 := exn (o := .tup (.int (b + hiz n s) :: ((partT (n - hiz n s) (s - 1)).map V.int ++ [.int (opsN (n - hiz n s) (s - 1))]))) hp
  refine ⟨_, e3 _ _ ha1, _, atI_0, _, .inl (sq_t (e3 _ _ hd)), by simp [partT], fun p2 hp2 p3 hp3 => ?_⟩
  have ee : opsN n s - (if 1 < n - hiz n s then 4 else 2) - opsN (n - hiz n s) (s - 1) = opsN (hiz n s) s := by
    rw [e2]
    omega
  rw [ee] at hp3 ⊢
  exact q p3 p p2 _ (Evl.fresh_back (((e1.trans e3).trans (exn hp2))) hp3) ((((e1.trans e3).trans (exn hp2))).trans (exn hp3)) upd_same (exn hp3 _ _ (exn hp2 _ _ upd_same)) (exn hp3 _ _ upd_same)
def sp_whole_plan (K : PySem.W.Frag) : Sp := sp2 fun x y H Q _ => ∃ (n s : Int), x = .int n ∧ y = .int s ∧ PB n s ∧ ∀ p H', H p = none → Ex H H' → H' p = some (.tup ((planT 0 n s).map V.int)) → Q (.ref p) H'
theorem sc_whole_plan : FnScope ["length", "slots", "rounds", "some"] ["length", "slots"] (defScope s_whole_plan) := ⟨rfl, rfl, rfl, by decide +kernel, rfl, by decide +kernel, by decide +kernel⟩
theorem ok_whole_plan (T : Txt P w K mg base) : FnOk P w K mg base (L2.CX P w) 5 T.a_whole_plan T.fd_whole_plan ["length", "slots"] (sp_whole_plan K) := by
  refine FunD.ok T.F_whole_plan sc_whole_plan (fun vs H Q E h => ar2 h) (fun cdv A fr s H vs Q E hr h => ⟨_, PSs.nox (pss_cons (ps_expr (pe_call (ok_require_task T) hr (by rfl) T.g_require_task T.F_require_task.kp T.b_require_task .nil passL (pa_cons (pv 0) (pa_cons (pv 1) pa_nil)))) (pss_cons (ps_set (i := 2) sc_whole_plan.nd rfl (.inl rfl) (pe_call (ok_rounds_of T) (hr.mono (by decide)) (by rfl) T.g_rounds_of T.F_rounds_of.kp T.b_rounds_of .nil passL (pa_cons (pv 0) (pa_cons (pv 1) pa_nil)))) (pss_cons (ps_if (pt_cmpR op_gt (pv 2) (pe_glob (v := .int 1000) (by rfl) T.c_MOST_ROUNDS ⟨_, rfl⟩) (nomark _)) (pss_one ps_never) pss_nil) (pss_cons (ps_set (i := 3) sc_whole_plan.nd rfl (.inl rfl) (pe_tup (pa_cons (pv 0) (pa_cons (pv 1) (pa_cons (pv 2) (pa_cons (pe_call (ok_reach_of T) (hr.mono (by decide)) (by rfl) T.g_reach_of T.F_reach_of.kp T.b_reach_of .nil passL (pa_cons (pv 1) (pa_cons (pv 2) pa_nil))) pa_nil)))))) (pss_one (ps_ret (pe_tup (pa_cons pe_int (StX.pa_star (pv 3) (pa_cons (pe_call (ok_count_of T) (hr.mono (by decide)) (by rfl) T.g_count_of T.F_count_of.kp T.b_count_of .nil passL (pa_cons (pv 3) pa_nil)) pa_nil)))))))))), ?_⟩)
  obtain ⟨_, _, rfl, n, s, rfl, rfl, hb, q⟩ := h
  have hb' := hb
  obtain ⟨h1, h2, h3, h4, h5⟩ := hb'
  have r0 := rho_nonneg n s
  unfold sp_require_task sp_rounds_of sp_reach_of sp_count_of
  walk_at "rd"
  refine ⟨h1, h2, h3, h4, h1, h2, h3, by omega, fun H2 e2 => iteNo (by omega) ⟨by omega, by omega, by omega, by omega, fun p hp => ?_⟩⟩
  refine ⟨_, .inl (sq_t upd_same), n, s, rfl, hb, fun H3 e3 => ⟨by simp, fun p2 hp2 => ?_⟩⟩
  exact q p2 _ (Evl.fresh_back ((e2.trans (exn hp)).trans e3) hp2) (((e2.trans (exn hp)).trans e3).trans (exn hp2)) upd_same
/-! operations -/
def opV : Op → List V
  | .go k => [.str "go", .int k]
  | .keep => [.str "keep"]
  | .take m => [.str "take", .int m]
  | .free m => [.str "free", .int m]
  | .back => [.str "back"]
def sp_row_operation (K : PySem.W.Frag) : Sp := sp2 fun x y H Q _ => ∃ (a : Addr) (b n s i : Int), x = .ref a ∧ y = .int i ∧ H a = some (.tup ((planT b n s).map V.int)) ∧ 1 ≤ n ∧ 0 ≤ i ∧
  ∀ p H', H p = none → Ex H H' → H' p = some (.tup (opV (rowOp b n i))) → Q (.ref p) H'
theorem sc_row_operation : FnScope ["part", "number", "state", "length", "turn", "which"] ["part", "number"] (defScope s_row_operation) := ⟨rfl, rfl, rfl, by decide +kernel, rfl, by decide +kernel, by decide +kernel⟩
theorem ok_row_operation (T : Txt P w K mg base) : FnOk P w K mg base (L2.CX P w) 1 T.a_row_operation T.fd_row_operation ["part", "number"] (sp_row_operation K) := by
  refine FunD.ok T.F_row_operation sc_row_operation (fun vs H Q E h => ar2 h) (fun cdv A fr s H vs Q E hr h => ⟨_, PSs.nox (pss_cons (ps_par (i := 2) (j := 3) (by rfl) sc_row_operation.nd rfl rfl (by decide) rfl rfl (pa_cons (pe_ix ix_tupT (pv 0) pe_int (fun _ _ => rfl)) (pa_cons (pe_ix ix_tupT (pv 0) pe_int (fun _ _ => rfl)) pa_nil)) (by rfl)) (pss_cons (ps_asg (pe_callB call_divmod (by rfl) T.n_divmod (by decide +kernel) (pa_cons (pv 1) (pa_cons pe_int pa_nil))) (pg_tupT (n := 2) rfl (pgs_cons (pg_name (i := 4) sc_row_operation.nd rfl (.inl rfl)) (pgs_cons (pg_name (i := 5) sc_row_operation.nd rfl (.inl rfl)) pgs_nil)))) (pss_cons (ps_if (PW.pt (pw_or (pt_cmpR op_eq (pv 4) (pe_op op_sub (pv 3) pe_int) (nomark _)) (pw_or1 (pt_cmpR op_eq (pv 5) pe_int (nomark _))))) (pss_one (ps_ret (pe_tup (pa_cons pe_str pa_nil)))) pss_nil) (pss_one (ps_ret (pe_ifExp (pt_cmpR op_eq (pv 5) pe_int (nomark _)) (pe_tup (pa_cons pe_str (pa_cons (pe_op op_sub (pe_op op_sub (pv 3) pe_int) (pv 4)) pa_nil))) (pe_tup (pa_cons pe_str (pa_cons (pv 2) pa_nil))))))))), ?_⟩)
  obtain ⟨_, _, rfl, a, b, n, s, i, rfl, rfl, ha, h1, h2, q⟩ := h
  walk_at "rd"
  refine ⟨_, ha, _, atI_0, _, ha, _, atI_1, ?_⟩
  walk_at "rd"
  refine ⟨by unfold CDiv; omega, fun p hp => ?_⟩
  have fin : ∀ (o : Op) (p2 : Addr), rowOp b n i = o → upd H p (.tup [.int (i / 3), .int (i % 3)]) p2 = none → Q (.ref p2) (upd (upd H p (.tup [.int (i / 3), .int (i % 3)])) p2 (.tup (opV o))) := fun o p2 h hp2 =>
    q p2 _ (Evl.fresh_back (exn hp) hp2) ((exn hp).trans (exn hp2)) (by rw [upd_same, h])
  refine ite2 (fun h p2 hp2 => ?_) fun h => ite2 (fun h' p2 hp2 => ?_) fun h' => ite2 (fun h2 p2 hp2 => ?_) fun h2 p2 hp2 => ?_
  · exact fin .back p2 (by unfold rowOp; rw [if_pos (.inl h)]) hp2
  · exact fin .back p2 (by unfold rowOp; rw [if_pos (.inr h')]) hp2
  · exact fin (.go _) p2 (by unfold rowOp; rw [if_neg (by omega), if_pos h2]) hp2
  · exact fin (.take _) p2 (by unfold rowOp; rw [if_neg (by omega), if_neg h2]) hp2
def sp_operation_of (K : PySem.W.Frag) : Sp := sp2 fun x y H Q _ => ∃ (a : Addr) (b n s i : Int), x = .ref a ∧ y = .int i ∧ H a = some (.tup ((planT b n s).map V.int)) ∧ PB n s ∧ 0 ≤ i ∧ i < opsN n s ∧
  ∀ p H', H p = none → Ex H H' → H' p = some (.tup (opV (opAt n s b i))) → Q (.ref p) H'
theorem sc_operation_of : FnScope ["plan", "number", "part", "left", "split", "behind", "ahead", "kept"] ["plan", "number"] (defScope s_operation_of) := ⟨rfl, rfl, rfl, by decide +kernel, rfl, by decide +kernel, by decide +kernel⟩
theorem ok_operation_of (T : Txt P w K mg base) : FnOk P w K mg base (L2.CX P w) 3 T.a_operation_of T.fd_operation_of ["plan", "number"] (sp_operation_of K) := by
  refine FunD.ok T.F_operation_of sc_operation_of (fun vs H Q E h => ar2 h) (fun cdv A fr s H vs Q E hr h => ⟨_, PSs.nox (pss_cons (ps_par (i := 2) (j := 3) (by rfl) sc_operation_of.nd rfl rfl (by decide) rfl rfl (pa_cons (pv 0) (pa_cons (pv 1) pa_nil)) (by rfl)) (pss_cons (ps_while PassesOwn.never (PW.pt (pw_and (pt_cmpR op_gt (pe_ix ix_tupT (pv 2) pe_int (fun _ _ => rfl)) pe_int (nomark _)) (pw_and1 (pt_cmpR op_gt (pe_ix ix_tupT (pv 2) pe_int (fun _ _ => rfl)) pe_int (nomark _))))) (Evl.pss_cut (ps_asg (pe_call (ok_parts_of T) hr (by rfl) T.g_parts_of T.F_parts_of.kp T.b_parts_of .nil passL (pa_cons (pv 2) pa_nil)) (pg_tupT (n := 3) rfl (pgs_cons (pg_name (i := 4) sc_operation_of.nd rfl (.inl rfl)) (pgs_cons (pg_name (i := 5) sc_operation_of.nd rfl (.inl rfl)) (pgs_cons (pg_name (i := 6) sc_operation_of.nd rfl (.inl rfl)) pgs_nil))))) (Evl.pss_cut (ps_set (i := 7) sc_operation_of.nd rfl (.inl rfl) (pe_callTy call_intB (by rfl) T.n_int (by decide +kernel) (pa_cons (pe_cmpR op_gt (pe_ix ix_tupT (pv 5) pe_int (fun _ _ => rfl)) pe_int (nomark _)) pa_nil))) (pss_cons (ps_if (pt_cmpR op_eq (pv 3) pe_int (nomark _)) (pss_one (ps_ret (pe_tup (pa_cons pe_str (pa_cons (pv 4) pa_nil))))) pss_nil) (Evl.pss_cut (ps_if (PW.pt (pw_and (pt_cmpR op_eq (pv 3) pe_int (nomark _)) (pw_and1 (pt_cmpR op_eq (pv 7) pe_int (nomark _))))) (pss_one (ps_ret (pe_tup (pa_cons pe_str pa_nil)))) pss_nil) (pss_cons (ps_aug (i := 3) sc_operation_of.nd rfl (.inl rfl) (pe_op op_add pe_int (pv 7)) ip_sub) (pss_one (ps_if (pt_cmpR op_lt (pv 3) (pe_ix ix_tupT (pv 5) pe_int (fun _ _ => rfl)) (nomark _)) (pss_one (ps_set (i := 2) sc_operation_of.nd rfl (.inl rfl) (pv 5))) (pss_one (ps_if (PW.pt (pw_and (pt_cmpR op_eq (pv 3) (pe_ix ix_tupT (pv 5) pe_int (fun _ _ => rfl)) (nomark _)) (pw_and1 (pt_cmpR op_eq (pv 7) pe_int (nomark _))))) (pss_one (ps_ret (pe_tup (pa_cons pe_str (pa_cons (pe_op op_add (pe_ix ix_tupT (pv 2) pe_int (fun _ _ => rfl)) (pv 4)) pa_nil))))) (pss_one (ps_if (pt_cmpR op_eq (pv 3) (pe_op op_add (pe_ix ix_tupT (pv 5) pe_int (fun _ _ => rfl)) (pv 7)) (nomark _)) (pss_one (ps_ret (pe_tup (pa_cons pe_str (pa_cons (pe_ix ix_tupT (pv 2) pe_int (fun _ _ => rfl)) pa_nil))))) (pss_one (ps_par (i := 2) (j := 3) (by rfl) sc_operation_of.nd rfl rfl (by decide) rfl rfl (pa_cons (pv 6) (pa_cons (pe_op op_sub (pe_op op_sub (pe_op op_sub (pv 3) (pe_ix ix_tupT (pv 5) pe_int (fun _ _ => rfl))) (pv 7)) pe_int) pa_nil)) (by rfl))))))))))))))) (pss_one (ps_ret (pe_call (ok_row_operation T) (hr.mono (by decide)) (by rfl) T.g_row_operation T.F_row_operation.kp T.b_row_operation .nil passL (pa_cons (pv 2) (pa_cons (pv 3) pa_nil))))))), ?_⟩)
  obtain ⟨_, _, rfl, a, b, n, s, i, rfl, rfl, ha, hb, i0, i1, q⟩ := h
  walk_at "rd"
  refine ⟨fun m σ H' => Ex H H' ∧ ∃ (l : Addr) (b' n' s' i' : Int) (x y z u : Option V), σ = [some (.ref a), some (.int i), some (.ref l), some (.int i'), x, y, z, u] ∧ H' l = some (.tup ((planT b' n' s').map V.int)) ∧ PB n' s' ∧ 0 ≤ i' ∧ i' < opsN n' s' ∧ opAt n' s' b' i' = opAt n s b i ∧ m = n'.toNat,
    ⟨_, .refl _, a, b, n, s, i, _, _, _, _, rfl, ha, hb, i0, i1, rfl, rfl⟩, ?_⟩
  rintro m σ H1 ⟨e1, l, b', n', s', i', x, y, z, u, rfl, hl, hb', j0, j1, eo, rfl⟩
  walk_at "rd"
  refine ⟨_, hl, _, atI_1, ?_⟩
  walk_at "rd"
  have row : (n' < 2 ∨ s' < 2) → sp_row_operation K [.ref l, .int i'] H1 Q E0 := fun h => by
    unfold sp_row_operation
    walk_at "rd"
    refine ⟨b', n', s', hl, hb'.1, j0, fun p H2 hp e2 h2 => q p H2 (Evl.fresh_back e1 hp) (e1.trans e2) ?_⟩
    rw [h2, ← eo, opAt_row h]
  refine ite2 (fun hn => ?_) fun hn => row (.inl (by omega))
  refine ⟨_, hl, _, atI_2, ?_⟩
  walk_at "rd"
  refine ite2 (fun hs => ?_) fun hs => row (.inr (by omega))
  have hn : 2 ≤ n' := by omega
  have hs : 2 ≤ s' := by omega
  obtain ⟨l1, l2, l3⟩ := loz_range hn hs
  have pr := hb'.rest hn hs
  have pa := hb'.ahead hn hs
  have ek := opsN_kp hn hs
  have eo2 := opAt_two (n := n') (s := s') (b := b') (i := i') hn hs
  refine ⟨fun σ' H'' => Ex H H'' ∧ ∃ (l : Addr) (b2 n2 s2 i2 : Int) (x y z u : Option V), σ' = [some (.ref a), some (.int i), some (.ref l), some (.int i2), x, y, z, u] ∧ H'' l = some (.tup ((planT b2 n2 s2).map V.int)) ∧ PB n2 s2 ∧ 0 ≤ i2 ∧ i2 < opsN n2 s2 ∧ opAt n2 s2 b2 i2 = opAt n s b i ∧ n2.toNat < n'.toNat,
    fun σ' H'' ⟨e, l, b2, n2, s2, i2, x, y, z, u, e1, e2, e3, e4, e5, e6, e7⟩ => ⟨_, e7, e, l, b2, n2, s2, i2, x, y, z, u, e1, e2, e3, e4, e5, e6, rfl⟩, ?_⟩
  refine Evl.q_cut (M := fun σ' H' => ∃ c d, σ' = [some (.ref a), some (.int i), some (.ref l), some (.int i'), some (.int (hiz n' s')), some (.ref c), some (.ref d), u] ∧ Ex H1 H' ∧ H' c = some (.tup ((planT (b' + hiz n' s') (n' - hiz n' s') (s' - 1)).map V.int)) ∧ H' d = some (.tup ((planT b' (hiz n' s') s').map V.int))) ?_ ?_
  · unfold sp_parts_of
    walk_at "rd"
    refine ⟨b', n', s', hl, hb', hn, hs, fun p c d H2 hp e2 h1 h2 h3 => ?_⟩
    simp only [h1]
    walk_at "rd"
    exact ⟨e2, h2, h3⟩
  rintro σ H2 ⟨c, d, rfl, e2, hc, hd⟩
  refine Evl.q_cut (M := fun σ' H' => σ' = [some (.ref a), some (.int i), some (.ref l), some (.int i'), some (.int (hiz n' s')), some (.ref c), some (.ref d), some (.int (kp n' s'))] ∧ H2 = H') ?_ ?_
  · walk_at "rd"
    refine ⟨_, hc, _, atI_1, ?_⟩
    walk_at "rd"
    unfold kp
    exact rfl
  rintro σ _ ⟨rfl, rfl⟩
  walk_at "rd"
  have hl2 := e2 _ _ hl
  have e12 := e1.trans e2
  have fin : ∀ (o : Op) (p2 : Addr), opAt n' s' b' i' = o → H2 p2 = none → Q (.ref p2) (upd H2 p2 (.tup (opV o))) := fun o p2 h hp2 =>
    q p2 _ (Evl.fresh_back e12 hp2) (e12.trans (exn hp2)) (by rw [upd_same, ← eo, h])
  refine ite2 (fun h p hp => fin (.go _) p (by rw [eo2, if_pos h]) hp) fun h0 => ?_
  rw [if_neg h0] at eo2
  refine Evl.q_cut (M := fun σ' H' => σ' = [some (.ref a), some (.int i), some (.ref l), some (.int i'), some (.int (hiz n' s')), some (.ref c), some (.ref d), some (.int (kp n' s'))] ∧ H2 = H' ∧ ¬ (i' = 1 ∧ kp n' s' = 1)) ?_ ?_
  · walk_at "rd"
    refine ite2 (fun h => ite2 (fun h' p hp => fin .keep p (by rw [eo2, if_pos ⟨h, h'⟩]) hp) fun h' => ?_) fun h => ?_
    · omega
    · omega
  rintro σ _ ⟨rfl, rfl, h1⟩
  rw [if_neg h1] at eo2
  walk_at "rd"
  simp only [hc, hl2, hd, planT]
  walk_at "rd"
  have k01 : kp n' s' = 0 ∨ kp n' s' = 1 := by unfold kp; split <;> simp
  have og := opsN_ge (n' - hiz n' s') (s' - 1) (by omega) (by omega)
  refine ite2 (fun h => ?_) fun h => ?_
  · rw [if_pos h] at eo2
    exact ⟨e12, pr, by omega, h, by rw [← eo2, eo], by omega⟩
  rw [if_neg h] at eo2
  have take : i' - (1 + kp n' s') = opsN (n' - hiz n' s') (s' - 1) + kp n' s' → ¬ (i' - (1 + kp n' s') = opsN (n' - hiz n' s') (s' - 1) ∧ kp n' s' = 1) → ∀ p, H2 p = none → Q (.ref p) (upd H2 p (.tup [.str "take", .int b'])) := fun h h' p hp =>
    fin (.take _) p (by rw [eo2, if_neg h', if_pos h]) hp
  have on : ¬ (i' - (1 + kp n' s') = opsN (n' - hiz n' s') (s' - 1) + kp n' s') → ¬ (i' - (1 + kp n' s') = opsN (n' - hiz n' s') (s' - 1) ∧ kp n' s' = 1) → Ex H H2 ∧ PB (hiz n' s') s' ∧ 0 ≤ i' - (1 + kp n' s') - opsN (n' - hiz n' s') (s' - 1) - kp n' s' - 1 ∧
      i' - (1 + kp n' s') - opsN (n' - hiz n' s') (s' - 1) - kp n' s' - 1 < opsN (hiz n' s') s' ∧ opAt (hiz n' s') s' b' (i' - (1 + kp n' s') - opsN (n' - hiz n' s') (s' - 1) - kp n' s' - 1) = opAt n s b i ∧ (hiz n' s').toNat < n'.toNat := fun h1 h2 =>
    ⟨e12, pa, by omega, by omega, by rw [← eo, eo2, if_neg h2, if_neg h1], by omega⟩
  refine ite2 (fun h1 => ite2 (fun h2 p hp => fin (.free _) p (by rw [eo2, if_pos ⟨h1, h2⟩]) hp) fun h2 => ite2 (fun h3 => take h3 (by omega)) fun h3 => on h3 (by omega)) fun h1 => ite2 (fun h3 => take h3 (by omega)) fun h3 => on h3 (by omega)
def sp_operation_count (K : PySem.W.Frag) : Sp := sp2 fun x y H Q _ => ∃ (n s : Int), x = .int n ∧ y = .int s ∧ PB n s ∧ ∀ H', Ex H H' → Q (.int (opsN n s)) H'
theorem sc_operation_count : FnScope ["length", "slots"] ["length", "slots"] (defScope s_operation_count) := ⟨rfl, rfl, rfl, by decide +kernel, rfl, by decide +kernel, by decide +kernel⟩
theorem ok_operation_count (T : Txt P w K mg base) : FnOk P w K mg base (L2.CX P w) 6 T.a_operation_count T.fd_operation_count ["length", "slots"] (sp_operation_count K) := by
  refine FunD.ok T.F_operation_count sc_operation_count (fun vs H Q E h => ar2 h) (fun cdv A fr s H vs Q E hr h => ⟨_, PSs.nox (pss_one (ps_ret (pe_ix ix_tupT (pe_call (ok_whole_plan T) hr (by rfl) T.g_whole_plan T.F_whole_plan.kp T.b_whole_plan .nil passL (pa_cons (pv 0) (pa_cons (pv 1) pa_nil))) pe_int (fun _ _ => rfl)))), ?_⟩)
  obtain ⟨_, _, rfl, n, s, rfl, rfl, hb, q⟩ := h
  unfold sp_whole_plan
  walk_at "rd"
  refine ⟨hb, fun p H2 hp e2 h2 => ?_⟩
  simp only [h2, planT]
  walk_at "rd"
  exact q _ e2
def sp_operation_at (K : PySem.W.Frag) : Sp := sp3 fun x y z H Q _ => ∃ (n s i : Int), x = .int n ∧ y = .int s ∧ z = .int i ∧ PB n s ∧ 0 ≤ i ∧ i < opsN n s ∧ ∀ p H', H p = none → Ex H H' → H' p = some (.tup (opV (opAt n s 0 i))) → Q (.ref p) H'
theorem sc_operation_at : FnScope ["length", "slots", "number", "plan"] ["length", "slots", "number"] (defScope s_operation_at) := ⟨rfl, rfl, rfl, by decide +kernel, rfl, by decide +kernel, by decide +kernel⟩
theorem ok_operation_at (T : Txt P w K mg base) : FnOk P w K mg base (L2.CX P w) 6 T.a_operation_at T.fd_operation_at ["length", "slots", "number"] (sp_operation_at K) := by
  refine FunD.ok T.F_operation_at sc_operation_at (fun vs H Q E h => ar3 h) (fun cdv A fr s H vs Q E hr h => ⟨_, PSs.nox (pss_cons (ps_set (i := 3) sc_operation_at.nd rfl (.inl rfl) (pe_call (ok_whole_plan T) hr (by rfl) T.g_whole_plan T.F_whole_plan.kp T.b_whole_plan .nil passL (pa_cons (pv 0) (pa_cons (pv 1) pa_nil)))) (pss_cons (ps_if (pt_not (pt_val (pe_call (ok_is_whole T) (hr.mono (by decide)) (by rfl) T.g_is_whole T.F_is_whole.kp T.b_is_whole .nil passL (pa_cons (pv 2) (pa_cons pe_int (pa_cons (pe_op op_sub (pe_ix ix_tupT (pv 3) pe_int (fun _ _ => rfl)) pe_int) pa_nil)))))) (pss_one ps_never) pss_nil) (pss_one (ps_ret (pe_call (ok_operation_of T) (hr.mono (by decide)) (by rfl) T.g_operation_of T.F_operation_of.kp T.b_operation_of .nil passL (pa_cons (pv 3) (pa_cons (pv 2) pa_nil))))))), ?_⟩)
  obtain ⟨_, _, _, rfl, n, s, i, rfl, rfl, rfl, hb, i0, i1, q⟩ := h
  unfold sp_whole_plan sp_is_whole sp_operation_of
  walk_at "rd"
  refine ⟨hb, fun p H2 hp e2 h2 => ?_⟩
  simp only [h2]
  walk_at "rd"
  refine ⟨_, atI_5, ?_⟩
  walk_at "rd"
  refine ⟨some i, rfl, ?_⟩
  have e : whole (some i) 0 (opsN n s - 1) = true := by unfold whole; exact decide_eq_true ⟨i0, by omega⟩
  rw [e]
  exact iteTF ⟨0, n, s, rfl, hb, i0, i1, fun p3 H3 hp3 e3 h3 => q p3 H3 (Evl.fresh_back e2 hp3) (e2.trans e3) h3⟩
def sp_back_at (K : PySem.W.Frag) : Sp := sp3 fun x y z H Q _ => ∃ (n s i : Int), x = .int n ∧ y = .int s ∧ z = .int i ∧ PB n s ∧ 0 ≤ i ∧ i < n ∧ ∀ H', Ex H H' → Q (.int (backAt n s i)) H'
theorem sc_back_at : FnScope ["length", "slots", "state", "part", "found", "split", "behind", "ahead", "kept", "turn"] ["length", "slots", "state"] (defScope s_back_at) := ⟨rfl, rfl, rfl, by decide +kernel, rfl, by decide +kernel, by decide +kernel⟩
theorem ok_back_at (T : Txt P w K mg base) : FnOk P w K mg base (L2.CX P w) 6 T.a_back_at T.fd_back_at ["length", "slots", "state"] (sp_back_at K) := by
  refine FunD.ok T.F_back_at sc_back_at (fun vs H Q E h => ar3 h) (fun cdv A fr s H vs Q E hr h => ⟨_, PSs.nox (Evl.pss_cut (ps_par (i := 3) (j := 4) (by rfl) sc_back_at.nd rfl rfl (by decide) rfl rfl (pa_cons (pe_call (ok_whole_plan T) hr (by rfl) T.g_whole_plan T.F_whole_plan.kp T.b_whole_plan .nil passL (pa_cons (pv 0) (pa_cons (pv 1) pa_nil))) (pa_cons pe_int pa_nil)) (by rfl)) (Evl.pss_cut (ps_if (pt_not (pt_val (pe_call (ok_is_whole T) (hr.mono (by decide)) (by rfl) T.g_is_whole T.F_is_whole.kp T.b_is_whole .nil passL (pa_cons (pv 2) (pa_cons pe_int (pa_cons (pe_op op_sub (pv 0) pe_int) pa_nil)))))) (pss_one ps_never) pss_nil) (pss_cons (ps_while PassesOwn.never (PW.pt (pw_and (pt_cmpR op_gt (pe_ix ix_tupT (pv 3) pe_int (fun _ _ => rfl)) pe_int (nomark _)) (pw_and1 (pt_cmpR op_gt (pe_ix ix_tupT (pv 3) pe_int (fun _ _ => rfl)) pe_int (nomark _))))) (Evl.pss_cut (ps_asg (pe_call (ok_parts_of T) (hr.mono (by decide)) (by rfl) T.g_parts_of T.F_parts_of.kp T.b_parts_of .nil passL (pa_cons (pv 3) pa_nil)) (pg_tupT (n := 3) rfl (pgs_cons (pg_name (i := 5) sc_back_at.nd rfl (.inl rfl)) (pgs_cons (pg_name (i := 6) sc_back_at.nd rfl (.inl rfl)) (pgs_cons (pg_name (i := 7) sc_back_at.nd rfl (.inl rfl)) pgs_nil))))) (Evl.pss_cut (ps_set (i := 8) sc_back_at.nd rfl (.inl rfl) (pe_callTy call_intB (by rfl) T.n_int (by decide +kernel) (pa_cons (pe_cmpR op_gt (pe_ix ix_tupT (pv 6) pe_int (fun _ _ => rfl)) pe_int (nomark _)) pa_nil))) (pss_one (ps_if (pt_cmpR op_ge (pv 2) (pe_ix ix_tupT (pv 6) pe_int (fun _ _ => rfl)) (nomark _)) (pss_one (ps_par (i := 4) (j := 3) (by rfl) sc_back_at.nd rfl rfl (by decide) rfl rfl (pa_cons (pe_op op_add (pe_op op_add (pv 4) pe_int) (pv 8)) (pa_cons (pv 6) pa_nil)) (by rfl))) (pss_one (ps_par (i := 4) (j := 3) (by rfl) sc_back_at.nd rfl rfl (by decide) rfl rfl (pa_cons (pe_op op_add (pe_op op_add (pe_op op_add (pv 4) pe_int) (pe_op op_mulB pe_int (pv 8))) (pe_ix ix_tupT (pv 6) pe_int (fun _ _ => rfl))) (pa_cons (pv 7) pa_nil)) (by rfl)))))))) (pss_cons (ps_set (i := 9) sc_back_at.nd rfl (.inl rfl) (pe_op op_sub (pe_op op_sub (pe_ix ix_tupT (pv 3) pe_int (fun _ _ => rfl)) pe_int) (pe_op op_sub (pv 2) (pe_ix ix_tupT (pv 3) pe_int (fun _ _ => rfl))))) (pss_one (ps_ret (pe_op op_add (pe_op op_add (pv 4) (pe_op op_mulB pe_int (pv 9))) (pe_callTy call_intB (by rfl) T.n_int (by decide +kernel) (pa_cons (pe_cmpR op_lt (pv 9) (pe_op op_sub (pe_ix ix_tupT (pv 3) pe_int (fun _ _ => rfl)) pe_int) (nomark _)) pa_nil))))))))), ?_⟩)
  obtain ⟨_, _, _, rfl, n, s, i, rfl, rfl, rfl, hb, i0, i1, q⟩ := h
  refine Evl.q_cut (M := fun σ' H' => ∃ l : Addr, σ' = [some (.int n), some (.int s), some (.int i), some (.ref l), some (.int 0), none, none, none, none, none] ∧ Ex H H' ∧ H' l = some (.tup ((planT 0 n s).map V.int))) ?_ ?_
  · unfold sp_whole_plan
    walk_at "rd"
    exact ⟨hb, fun p H2 hp e2 h2 => ⟨e2, h2⟩⟩
  rintro σ H1 ⟨l, rfl, e1, hl⟩
  refine Evl.q_cut (M := fun σ' H' => σ' = [some (.int n), some (.int s), some (.int i), some (.ref l), some (.int 0), none, none, none, none, none] ∧ H1 = H') ?_ ?_
  · unfold sp_is_whole
    walk_at "rd"
    refine ⟨some i, rfl, ?_⟩
    have e : whole (some i) 0 (n - 1) = true := by unfold whole; exact decide_eq_true ⟨i0, by omega⟩
    rw [e]
    exact iteTF trivial
  rintro σ _ ⟨rfl, rfl⟩
  walk_at "rd"
  refine ⟨fun m σ H' => Ex H H' ∧ ∃ (l : Addr) (b' n' s' f : Int) (x y z u : Option V), σ = [some (.int n), some (.int s), some (.int i), some (.ref l), some (.int f), x, y, z, u, none] ∧ H' l = some (.tup ((planT b' n' s').map V.int)) ∧ PB n' s' ∧ 0 ≤ i - b' ∧ i - b' < n' ∧ f + backAt n' s' (i - b') = backAt n s i ∧ m = n'.toNat,
    ⟨_, e1, l, 0, n, s, 0, _, _, _, _, rfl, hl, hb, by omega, by omega, by rw [Int.zero_add, Int.sub_zero], rfl⟩, ?_⟩
  rintro m σ H2 ⟨e2, l, b', n', s', f, x, y, z, u, rfl, hl2, hb', j0, j1, eo, rfl⟩
  walk_at "rd"
  have h1 := hb'.1
  have h3 := hb'.2.2.1
  have h2 := hb'.2.1
  have hB := big_200
  have row : (n' < 2 ∨ s' < 2) → CMulB 3 (n' - 1 - (i - b')) ∧ Q (.int (f + 3 * (n' - 1 - (i - b')) + if n' - 1 - (i - b') < n' - 1 then 1 else 0)) H2 := fun h => ⟨by unfold CMulB; omega, by
    have := q H2 e2
    rw [← eo, backAt_row h, ← Int.add_assoc] at this
    exact this⟩
  simp only [hl2, planT]
  walk_at "rd"
  refine ite2 (fun hn => ite2 (fun hs => ?_) fun hs => row (.inr (by omega))) fun hn => row (.inl (by omega))
  have hn : 2 ≤ n' := by omega
  have hs : 2 ≤ s' := by omega
  obtain ⟨l1, l2, l3⟩ := loz_range hn hs
  have pr := hb'.rest hn hs
  have pa := hb'.ahead hn hs
  have og := opsN_ge (n' - hiz n' s') (s' - 1) (by omega) (by omega)
  have eb := backAt_two (n := n') (s := s') (x := i - b') hn hs
  have k01 := kp_01 n' s'
  refine ⟨fun σ' H'' => Ex H H'' ∧ ∃ (l : Addr) (b2 n2 s2 f : Int) (x y z u : Option V), σ' = [some (.int n), some (.int s), some (.int i), some (.ref l), some (.int f), x, y, z, u, none] ∧ H'' l = some (.tup ((planT b2 n2 s2).map V.int)) ∧ PB n2 s2 ∧ 0 ≤ i - b2 ∧ i - b2 < n2 ∧ f + backAt n2 s2 (i - b2) = backAt n s i ∧ n2.toNat < n'.toNat,
    fun σ' H'' ⟨e, l, b2, n2, s2, f, x, y, z, u, e1, e2, e3, e4, e5, e6, e7⟩ => ⟨_, e7, e, l, b2, n2, s2, f, x, y, z, u, e1, e2, e3, e4, e5, e6, rfl⟩, ?_⟩
  refine Evl.q_cut (M := fun σ' H' => ∃ c d, σ' = [some (.int n), some (.int s), some (.int i), some (.ref l), some (.int f), some (.int (hiz n' s')), some (.ref c), some (.ref d), u, none] ∧ Ex H2 H' ∧ H' c = some (.tup ((planT (b' + hiz n' s') (n' - hiz n' s') (s' - 1)).map V.int)) ∧ H' d = some (.tup ((planT b' (hiz n' s') s').map V.int))) ?_ ?_
  · unfold sp_parts_of
    walk_at "rd"
    refine ⟨b', n', s', hl2, hb', hn, hs, fun p c d H2 hp e2 h1 h2 h3 => ?_⟩
    simp only [h1]
    walk_at "rd"
    exact ⟨e2, h2, h3⟩
  rintro σ H3 ⟨c, d, rfl, e3, hc, hd⟩
  refine Evl.q_cut (M := fun σ' H' => σ' = [some (.int n), some (.int s), some (.int i), some (.ref l), some (.int f), some (.int (hiz n' s')), some (.ref c), some (.ref d), some (.int (kp n' s')), none] ∧ H3 = H') ?_ ?_
  · walk_at "rd"
    refine ⟨_, hc, _, atI_1, ?_⟩
    walk_at "rd"
    unfold kp
    exact rfl
  rintro σ _ ⟨rfl, rfl⟩
  walk_at "rd"
  have e23 := e2.trans e3
  simp only [hc, hd, planT]
  walk_at "rd"
  refine ite2 (fun h => ?_) fun h => ?_
  · rw [if_pos (by omega)] at eb
    refine ⟨e23, pr, by omega, by omega, ?_, by omega⟩
    rw [show i - (b' + hiz n' s') = i - b' - hiz n' s' by omega]
    omega
  · rw [if_neg (by omega)] at eb
    exact ⟨by unfold CMulB; omega, e23, pa, by omega, by omega, by omega, by omega⟩
abbrev gD (g : Int × Int × Int) : PyData := .tuple [.int g.1, .int g.2.1, .int g.2.2]
abbrev gO (g : Int × Int × Int) : HO := .tup [.int g.1, .int g.2.1, .int g.2.2]
theorem goes_push {H H2 : Hp} {L p : Addr} {ys : List V} {gs : List (Int × Int × Int)} (hL : H L = none) (e2 : Ex H H2) (hY : H2 L = some (.lst ys)) (rY : RpA H2 (fun b => New H b ∧ b ≠ L) ys (gs.map gD)) (hp : H2 p = none) (g : Int × Int × Int) :
    (upd H2 p (gO g)) L = some (.lst ys) ∧ Ex H (upd (upd H2 p (gO g)) L (.lst (ys ++ [.ref p]))) ∧ (upd (upd H2 p (gO g)) L (.lst (ys ++ [.ref p]))) L = some (.lst (ys ++ [.ref p])) ∧
    RpA (upd (upd H2 p (gO g)) L (.lst (ys ++ [.ref p]))) (fun b => New H b ∧ b ≠ L) (ys ++ [.ref p]) ((gs ++ [g]).map gD) ∧ ∀ b o, b ≠ L → H2 b = some o → (upd (upd H2 p (gO g)) L (.lst (ys ++ [.ref p]))) b = some o := by
  have np : p ≠ L := (ne_of_none hY hp).symm
  have kp : ∀ b o, b ≠ L → H2 b = some o → (upd (upd H2 p (gO g)) L (.lst (ys ++ [.ref p]))) b = some o := fun b o nb h => by
    rw [upd_ne nb]
    exact exn hp _ _ h
  refine ⟨exn hp _ _ hY, Mo.ex_new (e2.trans (exn hp)) hL Mo.upd, upd_same, ?_, kp⟩
  rw [List.map_append]
  refine RpA.app (rY.keep (fun b o nb h => kp b o nb.2 h) fun _ q => q) (.cons (.tup ⟨Evl.fresh_back e2 hp, np⟩ (by rw [upd_ne np, upd_same]) (.cons (.int _) (.cons (.int _) (.cons (.int _) .nil)))) .nil)
def sp_goes_of (K : PySem.W.Frag) : Sp := sp2 fun x y H Q _ => ∃ (a : Addr) (n s i : Int), x = .ref a ∧ y = .int i ∧ H a = some (.tup ((planT 0 n s).map V.int)) ∧ PB n s ∧ 0 ≤ i ∧ i < n - 1 ∧
  ∀ v H', Ex H H' → Rp H' (New H) v (.list ((goesL n s i 0).map gD)) → Q v H'
theorem sc_goes_of : FnScope ["plan", "step", "found", "part", "begin", "split", "behind", "ahead"] ["plan", "step"] (defScope s_goes_of) := ⟨rfl, rfl, rfl, by decide +kernel, rfl, by decide +kernel, by decide +kernel⟩
theorem ok_goes_of (T : Txt P w K mg base) : FnOk P w K mg base (L2.CX P w) 3 T.a_goes_of T.fd_goes_of ["plan", "step"] (sp_goes_of K) := by
  refine FunD.ok T.F_goes_of sc_goes_of (fun vs H Q E h => ar2 h) (fun cdv A fr s H vs Q E hr h => ⟨_, PSs.nox (pss_cons (ps_par3 (i := 2) (j := 3) (l := 4) (by rfl) sc_goes_of.nd rfl rfl rfl (by decide) (by decide) (by decide) rfl rfl rfl (pa_cons (pe_lst pa_nil) (pa_cons (pv 0) (pa_cons pe_int pa_nil))) (by rfl)) (pss_cons (ps_while PassesOwn.never (PW.pt (pw_and (pt_cmpR op_gt (pe_ix ix_tupT (pv 3) pe_int (fun _ _ => rfl)) pe_int (nomark _)) (pw_and1 (pt_cmpR op_gt (pe_ix ix_tupT (pv 3) pe_int (fun _ _ => rfl)) pe_int (nomark _))))) (Evl.pss_cut (ps_asg (pe_call (ok_parts_of T) hr (by rfl) T.g_parts_of T.F_parts_of.kp T.b_parts_of .nil passL (pa_cons (pv 3) pa_nil)) (pg_tupT (n := 3) rfl (pgs_cons (pg_name (i := 5) sc_goes_of.nd rfl (.inl rfl)) (pgs_cons (pg_name (i := 6) sc_goes_of.nd rfl (.inl rfl)) (pgs_cons (pg_name (i := 7) sc_goes_of.nd rfl (.inl rfl)) pgs_nil))))) (Evl.pss_cut (ps_if (pt_cmpR op_ge (pv 1) (pe_ix ix_tupT (pv 6) pe_int (fun _ _ => rfl)) (nomark _)) (pss_one (ps_par (i := 4) (j := 3) (by rfl) sc_goes_of.nd rfl rfl (by decide) rfl rfl (pa_cons (pe_op op_add (pv 4) (pe_op op_divB (pe_call (ok_own_operations T) (hr.mono (by decide)) (by rfl) T.g_own_operations T.F_own_operations.kp T.b_own_operations .nil passL (pa_cons (pe_slice (r := rSlT K) sl_tup (pv 6) (po_some pe_int) po_none) pa_nil)) pe_int)) (pa_cons (pv 6) pa_nil)) (by rfl))) (pss_cons (ps_expr (pe_bm PySem.F.plainAttrs_list PySem.F.slot_list_append PySem.F.type_list_append mt_append (pv 2) (pa_cons (pe_tup (pa_cons (pv 4) (pa_cons pe_int (pa_cons pe_int pa_nil)))) pa_nil))) (pss_one (ps_par (i := 4) (j := 3) (by rfl) sc_goes_of.nd rfl rfl (by decide) rfl rfl (pa_cons (pe_op op_add (pe_op op_add (pv 4) (pe_call (ok_own_operations T) (hr.mono (by decide)) (by rfl) T.g_own_operations T.F_own_operations.kp T.b_own_operations .nil passL (pa_cons (pe_slice (r := rSlT K) sl_tup (pv 6) (po_some pe_int) po_none) pa_nil))) (pe_ix ix_tupT (pv 6) pe_int (fun _ _ => rfl))) (pa_cons (pv 7) pa_nil)) (by rfl))))) (pss_one (ps_if (pt_cmpR op_eq (pv 1) (pe_op op_sub (pe_op op_add (pe_ix ix_tupT (pv 3) pe_int (fun _ _ => rfl)) (pe_ix ix_tupT (pv 3) pe_int (fun _ _ => rfl))) pe_int) (nomark _)) (pss_one (ps_ret (pv 2))) pss_nil))))) (pss_cons (ps_expr (pe_bm PySem.F.plainAttrs_list PySem.F.slot_list_append PySem.F.type_list_append mt_append (pv 2) (pa_cons (pe_tup (pa_cons (pv 4) (pa_cons (pe_op op_sub (pe_op op_sub (pe_ix ix_tupT (pv 3) pe_int (fun _ _ => rfl)) pe_int) (pe_op op_sub (pv 1) (pe_ix ix_tupT (pv 3) pe_int (fun _ _ => rfl)))) (pa_cons pe_int pa_nil)))) pa_nil))) (pss_one (ps_ret (pv 2)))))), ?_⟩)
  obtain ⟨_, _, rfl, a, n, s, i, rfl, rfl, ha, hb, i0, i1, q⟩ := h
  walk_at "rd"
  intro L hL
  refine ⟨fun m σ H' => Ex H H' ∧ ∃ (l : Addr) (b' n' s' f : Int) (x y z : Option V) (ys : List V) (gs : List (Int × Int × Int)), σ = [some (.ref a), some (.int i), some (.ref L), some (.ref l), some (.int f), x, y, z] ∧ H' l = some (.tup ((planT b' n' s').map V.int)) ∧ l ≠ L ∧ PB n' s' ∧ 0 ≤ i - b' ∧ i - b' < n' - 1 ∧
      H' L = some (.lst ys) ∧ ys.length + rho n' s' ≤ rho n s ∧ RpA H' (fun b => New H b ∧ b ≠ L) ys (gs.map gD) ∧ gs ++ goesL n' s' (i - b') f = goesL n s i 0 ∧ m = n'.toNat,
    ⟨_, exn hL, a, 0, n, s, 0, _, _, _, [], [], rfl, exn hL _ _ ha, ne_of_none ha hL, hb, by omega, by omega, upd_same, by simp, .nil, by rw [List.nil_append, Int.sub_zero], rfl⟩, ?_⟩
  rintro m σ H2 ⟨e2, l, b', n', s', f, x, y, z, ys, gs, rfl, hl2, nl, hb', j0, j1, hY, len, rY, eo, rfl⟩
  walk_at "rd"
  have h1 := hb'.1
  have h3 := hb'.2.2.1
  have r9 := hb.2.2.2.2
  have r0 := rho_nonneg n' s'
  simp only [hl2, planT]
  walk_at "rd"
  have row : (n' < 2 ∨ s' < 2) → ∀ p, H2 p = none → ∃ zs, (upd H2 p (.tup [.int f, .int (n' - 1 - (i - b')), .int 3])) L = some (.lst zs) ∧ zs.length < 16777216 ∧ Q (.ref L) (upd (upd H2 p (.tup [.int f, .int (n' - 1 - (i - b')), .int 3])) L (.lst (zs ++ [.ref p]))) := fun h p hp => by
    obtain ⟨k1, k2, k3, k4, _⟩ := goes_push hL e2 hY rY hp (f, n' - 1 - (i - b'), 3)
    refine ⟨ys, k1, by omega, q _ _ k2 (.lst hL k3 ?_)⟩
    rw [← eo, goesL_row h]
    exact k4.sub fun b q => q.1
  refine ite2 (fun hn => ite2 (fun hs => ?_) fun hs => ⟨⟨_, sq_l hY⟩, row (.inr (by omega))⟩) fun hn => ⟨⟨_, sq_l hY⟩, row (.inl (by omega))⟩
  have hn : 2 ≤ n' := by omega
  have hs : 2 ≤ s' := by omega
  obtain ⟨l1, l2, l3⟩ := loz_range hn hs
  have pr := hb'.rest hn hs
  have pa := hb'.ahead hn hs
  have eb := goesL_two (n := n') (s := s') (x := i - b') (c := f) hn hs
  obtain ⟨_, rm1, rm2⟩ := rounds_max hn hs
  refine ⟨fun σ' H'' => Ex H H'' ∧ ∃ (l : Addr) (b2 n2 s2 f : Int) (x y z : Option V) (ys : List V) (gs : List (Int × Int × Int)), σ' = [some (.ref a), some (.int i), some (.ref L), some (.ref l), some (.int f), x, y, z] ∧ H'' l = some (.tup ((planT b2 n2 s2).map V.int)) ∧ l ≠ L ∧ PB n2 s2 ∧ 0 ≤ i - b2 ∧ i - b2 < n2 - 1 ∧
      H'' L = some (.lst ys) ∧ ys.length + rho n2 s2 ≤ rho n s ∧ RpA H'' (fun b => New H b ∧ b ≠ L) ys (gs.map gD) ∧ gs ++ goesL n2 s2 (i - b2) f = goesL n s i 0 ∧ n2.toNat < n'.toNat,
    fun σ' H'' ⟨e, l, b2, n2, s2, f, x, y, z, ys, gs, e1, e2, e3, e4, e5, e6, e7, e8, e9, e10, e11⟩ => ⟨_, e11, e, l, b2, n2, s2, f, x, y, z, e1, e2, e3, e4, e5, e6, ys, e7, e8, gs, e9, e10, rfl⟩, ?_⟩
  refine Evl.q_cut (M := fun σ' H' => ∃ c d, σ' = [some (.ref a), some (.int i), some (.ref L), some (.ref l), some (.int f), some (.int (hiz n' s')), some (.ref c), some (.ref d)] ∧ Ex H2 H' ∧ H' c = some (.tup ((planT (b' + hiz n' s') (n' - hiz n' s') (s' - 1)).map V.int)) ∧ H' d = some (.tup ((planT b' (hiz n' s') s').map V.int))) ?_ ?_
  · unfold sp_parts_of
    walk_at "rd"
    refine ⟨b', n', s', hl2, hb', hn, hs, fun p c d H2 hp e2 h1 h2 h3 => ?_⟩
    simp only [h1]
    walk_at "rd"
    exact ⟨e2, h2, h3⟩
  rintro σ H3 ⟨c, d, rfl, e3, hc, hd⟩
  have hY3 := e3 _ _ hY
  have nc : c ≠ L := fun e => by rw [e, hY3] at hc; cases hc
  have nd : d ≠ L := fun e => by rw [e, hY3] at hd; cases hd
  have e23 := e2.trans e3
  have rY3 := rY.ex e3
  have own : ∀ m : Int, (if m > 1 then (4 : Int) else 2) = 2 + 2 * (if m > 1 then 1 else 0) := fun m => by split <;> rfl
  refine Evl.q_cut (M := fun σ' H' => Ex H H' ∧ ∃ (u : Addr) (b2 n2 s2 g : Int) (ys : List V) (gs : List (Int × Int × Int)), σ' = [some (.ref a), some (.int i), some (.ref L), some (.ref u), some (.int g), some (.int (hiz n' s')), some (.ref c), some (.ref d)] ∧ H' u = some (.tup ((planT b2 n2 s2).map V.int)) ∧ u ≠ L ∧ PB n2 s2 ∧ 0 ≤ i - b2 ∧ i - b2 ≤ n2 - 1 ∧
      H' L = some (.lst ys) ∧ ys.length + rho n2 s2 ≤ rho n s ∧ RpA H' (fun b => New H b ∧ b ≠ L) ys (gs.map gD) ∧ gs ++ (if i - b2 = n2 - 1 then [] else goesL n2 s2 (i - b2) g) = goesL n s i 0 ∧ n2.toNat < n'.toNat) ?_ ?_
  · unfold sp_own_operations
    walk_at "rd"
    simp only [hc, hd, planT]
    walk_at "rd"
    have own2 : (if 1 < n' - hiz n' s' then (4 : Int) else 2) / 2 = 1 + kp n' s' := by unfold kp; split <;> rfl
    have own4 : (if 1 < n' - hiz n' s' then (4 : Int) else 2) = 2 + 2 * kp n' s' := by unfold kp; split <;> rfl
    refine ite2 (fun h => ?_) fun h => ?_
    · rw [if_pos (by omega)] at eb
      refine ⟨_, sq_t hc, fun h => absurd h.1 (show ¬ ((1 : Nat) = 0) by decide), fun p hp => ⟨n' - hiz n' s', _, cut_1 _, by unfold CDivB; omega, e23.trans (exn hp), b' + hiz n' s', n' - hiz n' s', s' - 1, exn hp _ _ hc, nc, pr, by omega, by omega, ys, exn hp _ _ hY3, by omega, gs, rY3.ex (exn hp), ?_, by omega⟩⟩
      rw [own2, if_neg (by omega), show i - (b' + hiz n' s') = i - b' - hiz n' s' by omega, ← eb]
      exact eo
    · rw [if_neg (by omega)] at eb
      refine ⟨⟨_, sq_l hY3⟩, fun p hp => ?_⟩
      obtain ⟨k1, k2, k3, k4, k5⟩ := goes_push hL e23 hY3 rY3 hp (f, 1, 0)
      refine ⟨ys, k1, by omega, _, sq_t (k5 _ _ nc hc), fun h => absurd h.1 (show ¬ ((1 : Nat) = 0) by decide), fun p2 hp2 => ⟨n' - hiz n' s', _, cut_1 _, _, exn hp2 _ _ (k5 _ _ nc hc), _, atI_5, _, rfl, k2.trans (exn hp2), b', hiz n' s', s', exn hp2 _ _ (k5 _ _ nd hd), nd, pa, by omega, by omega, _, exn hp2 _ _ k3, ?_, _, k4.ex (exn hp2), ?_, by omega⟩⟩
      · rw [List.length_append]
        show ((ys.length + 1 : Nat) : Int) + _ ≤ _
        omega
      · rw [own4, List.append_assoc, ← eo, eb, Int.add_assoc f]
        rfl
  rintro σ H4 ⟨e4, u, b2, n2, s2, g, zs, ks, rfl, hu, nu, hb2, k0, k1, hZ, len4, rZ, eo4, lt4⟩
  walk_at "rd"
  simp only [hu, planT]
  walk_at "rd"
  refine ite2 (fun h => ?_) fun h => ?_
  · rw [if_pos (by omega), List.append_nil] at eo4
    refine q _ _ e4 (.lst hL hZ ?_)
    rw [← eo4]
    exact rZ.sub fun b q => q.1
  · rw [if_neg (by omega)] at eo4
    exact ⟨e4, nu, hb2, k0, by omega, _, hZ, len4, _, rZ, eo4, lt4⟩
def sp_asked_goes (K : PySem.W.Frag) : Sp := sp3 fun x y z H Q _ => ∃ (n s i : Int), x = .int n ∧ y = .int s ∧ z = .int i ∧ PB n s ∧ 0 ≤ i ∧ i < n - 1 ∧ ∀ v H', Ex H H' → Rp H' (New H) v (.list ((goesL n s i 0).map gD)) → Q v H'
theorem sc_asked_goes : FnScope ["length", "slots", "step", "plan"] ["length", "slots", "step"] (defScope s_asked_goes) := ⟨rfl, rfl, rfl, by decide +kernel, rfl, by decide +kernel, by decide +kernel⟩
theorem ok_asked_goes (T : Txt P w K mg base) : FnOk P w K mg base (L2.CX P w) 6 T.a_asked_goes T.fd_asked_goes ["length", "slots", "step"] (sp_asked_goes K) := by
  refine FunD.ok T.F_asked_goes sc_asked_goes (fun vs H Q E h => ar3 h) (fun cdv A fr s H vs Q E hr h => ⟨_, PSs.nox (pss_cons (ps_set (i := 3) sc_asked_goes.nd rfl (.inl rfl) (pe_call (ok_whole_plan T) hr (by rfl) T.g_whole_plan T.F_whole_plan.kp T.b_whole_plan .nil passL (pa_cons (pv 0) (pa_cons (pv 1) pa_nil)))) (pss_cons (ps_if (pt_not (pt_val (pe_call (ok_is_whole T) (hr.mono (by decide)) (by rfl) T.g_is_whole T.F_is_whole.kp T.b_is_whole .nil passL (pa_cons (pv 2) (pa_cons pe_int (pa_cons (pe_op op_sub (pv 0) pe_int) pa_nil)))))) (pss_one ps_never) pss_nil) (pss_one (ps_ret (pe_call (ok_goes_of T) (hr.mono (by decide)) (by rfl) T.g_goes_of T.F_goes_of.kp T.b_goes_of .nil passL (pa_cons (pv 3) (pa_cons (pv 2) pa_nil))))))), ?_⟩)
  obtain ⟨_, _, _, rfl, n, s, i, rfl, rfl, rfl, hb, i0, i1, q⟩ := h
  unfold sp_whole_plan sp_is_whole sp_goes_of
  walk_at "rd"
  refine ⟨hb, fun p H2 hp e2 h2 => ⟨some i, rfl, ?_⟩⟩
  have e : whole (some i) 0 (n - 2) = true := by unfold whole; exact decide_eq_true ⟨i0, by omega⟩
  rw [e]
  exact iteTF ⟨n, s, h2, hb, i0, i1, fun v H3 e3 hv => q v H3 (e2.trans e3) (hv.sub fun b q => Evl.fresh_back e2 q)⟩
def sp_times_done (K : PySem.W.Frag) : Sp := sp3 fun x y z H Q _ => ∃ (n s i : Int), x = .int n ∧ y = .int s ∧ z = .int i ∧ PB n s ∧ 0 ≤ i ∧ i < n - 1 ∧ ∀ H', Ex H H' → Q (.int (timesD n s i)) H'
theorem sc_times_done : FnScope ["length", "slots", "step", "begin", "many", "width"] ["length", "slots", "step"] (defScope s_times_done) := ⟨rfl, rfl, rfl, by decide +kernel, rfl, by decide +kernel, by decide +kernel⟩
theorem ok_times_done (T : Txt P w K mg base) : FnOk P w K mg base (L2.CX P w) 7 T.a_times_done T.fd_times_done ["length", "slots", "step"] (sp_times_done K) := by
  refine FunD.ok T.F_times_done sc_times_done (fun vs H Q E h => ar3 h) (fun cdv A fr s H vs Q E hr h => ⟨_, PSs.nox (pss_one (ps_ret (pe_callB (r := rSum K) (cr_sum rfl) (by rfl) T.n_sum (by decide +kernel) (pa_cons (pe_lc (own := [("begin", 3), ("many", 4), ("width", 5)]) rfl sc_times_done.nd (pi_list (pe_call (ok_asked_goes T) hr (by rfl) T.g_asked_goes T.F_asked_goes.kp T.b_asked_goes .nil passL (pa_cons (pv 0) (pa_cons (pv 1) (pa_cons (pv 2) pa_nil))))) (blkOk_by (N := ["length", "slots", "step", "begin", "many", "width"]) (sc := defScope s_times_done) (by decide +kernel)) (fun _ _ _ _ _ => (pg_tupT (n := 3) rfl (pgs_cons (pg_name (i := 3) sc_times_done.nd rfl (Or.inl rfl)) (pgs_cons (pg_name (i := 4) sc_times_done.nd rfl (Or.inl rfl)) (pgs_cons (pg_name (i := 5) sc_times_done.nd rfl (Or.inl rfl)) pgs_nil))))) (fun _ _ _ _ _ => pts_nil) (fun _ _ _ _ _ => (pv 4))) pa_nil)))), ?_⟩)
  obtain ⟨_, _, _, rfl, n, s, i, rfl, rfl, rfl, hb, i0, i1, q⟩ := h
  simp only [tRet, tCB, tCons, tLc_lst]
  unfold sp_asked_goes
  walk_at "rd"
  refine ⟨hb, i0, i1, fun v H2 e2 hv => ?_⟩
  cases hv with
  | lst sf hf rt =>
  rename_i L ys
  have len : ys.length ≤ 1001 := by
    have := goes_len n s hb.1 hb.2.2.1 i 0
    have r9 := hb.2.2.2.2
    rw [rt.len, List.length_map]
    omega
  refine lcL_g (sq_l hf) (fun _ => true) (fun j => .int (match (goesL n s i 0)[j]? with | some g => g.2.1 | none => 0)) (by omega) ?_ ?_
  · intro j x H3 hx e3 R Rt _ k2
    obtain ⟨d, hd, rp⟩ := rt.at' hx
    rw [List.getElem?_map] at hd
    obtain ⟨g, hg, rfl⟩ := Option.map_eq_some_iff.mp hd
    cases rp with
    | tup sf2 hf2 rt2 =>
    rename_i T zs
    cases rt2 with | cons r1 t1 => cases t1 with | cons r2 t2 => cases t2 with | cons r3 t3 =>
    cases r1; cases r2; cases r3; cases t3
    simp only [wipe]
    walk_at "rd"
    simp only [e3 _ _ hf2]
    walk_at "rd"
    unfold tYes
    show (if true = true then _ else _)
    rw [if_pos rfl]
    have := k2 rfl (.int g.2.1) H3 (.refl _) (by rw [hg]; exact .int _)
    exact this
  · intro v H3 e3 hv
    rw [rt.len, List.length_map, range_map (goesL n s i 0) (fun g => PyData.int g.2.1) _ (fun j g h => by rw [h])] at hv
    have hv2 : Rp H3 (New H2) v (.list (((goesL n s i 0).map fun g => g.2.1).map PyData.int)) := by rw [List.map_map]; exact hv
    obtain ⟨M, rfl, _, hM⟩ := hv2.ints
    refine ⟨M, _, rfl, sq_l hM, ?_⟩
    rw [goes_sum n s hb.1 hb.2.2.1]
    exact q H3 (e2.trans e3)
def sp_go_at (K : PySem.W.Frag) : Sp := sp4 fun x y z u H Q _ => ∃ (n s i k : Int), x = .int n ∧ y = .int s ∧ z = .int i ∧ u = .int k ∧ PB n s ∧ 0 ≤ i ∧ i < n - 1 ∧ 0 ≤ k ∧ k ≤ 10 ^ 60 ∧ ∀ H', Ex H H' → Q (match goAt n s i k with | some v => .int v | none => .non) H'
theorem sc_go_at : FnScope ["length", "slots", "step", "number", "goes", "left", "begin", "many", "width"] ["length", "slots", "step", "number"] (defScope s_go_at) := ⟨rfl, rfl, rfl, by decide +kernel, rfl, by decide +kernel, by decide +kernel⟩
theorem ok_go_at (T : Txt P w K mg base) : FnOk P w K mg base (L2.CX P w) 7 T.a_go_at T.fd_go_at ["length", "slots", "step", "number"] (sp_go_at K) := by
  refine FunD.ok T.F_go_at sc_go_at (fun vs H Q E h => ar4 h) (fun cdv A fr s H vs Q E hr h => ⟨_, PSs.nox (pss_cons (ps_set (i := 4) sc_go_at.nd rfl (.inl rfl) (pe_call (ok_asked_goes T) hr (by rfl) T.g_asked_goes T.F_asked_goes.kp T.b_asked_goes .nil passL (pa_cons (pv 0) (pa_cons (pv 1) (pa_cons (pv 2) pa_nil))))) (pss_cons (ps_if (PW.pt (pw_or (pt_not (pt_val (pe_call (ok_is_int T) (hr.mono (by decide)) (by rfl) T.g_is_int T.F_is_int.kp T.b_is_int .nil passL (pa_cons (pv 3) pa_nil)))) (pw_or1 (pt_cmpR op_lt (pv 3) pe_int (nomark _))))) (pss_one ps_never) pss_nil) (pss_cons (ps_set (i := 5) sc_go_at.nd rfl (.inl rfl) (pv 3)) (pss_cons (ps_for PassesOwn.never rfl (pi_list (pv 4)) (pg_tupT (n := 3) rfl (pgs_cons (pg_name (i := 6) sc_go_at.nd rfl (.inl rfl)) (pgs_cons (pg_name (i := 7) sc_go_at.nd rfl (.inl rfl)) (pgs_cons (pg_name (i := 8) sc_go_at.nd rfl (.inl rfl)) pgs_nil)))) (pss_cons (ps_if (pt_cmpR op_lt (pv 5) (pv 7) (nomark _)) (pss_one (ps_ret (pe_op op_add (pv 6) (pe_op op_mulB (pv 5) (pv 8))))) pss_nil) (pss_one (ps_aug (i := 5) sc_go_at.nd rfl (.inl rfl) (pv 7) ip_sub)))) (pss_one (ps_ret pe_non)))))), ?_⟩)
  obtain ⟨_, _, _, _, rfl, n, s, i, k, rfl, rfl, rfl, rfl, hb, i0, i1, k0, k1, q⟩ := h
  unfold sp_asked_goes sp_is_int
  walk_at "rd"
  have IH : ∀ v H2, Ex H H2 → Rp H2 (New H) v (.list ((goesL n s i 0).map gD)) → tFor (iList K (tVar 4)) (gTupT 3 (gCons (gName 6) (gCons (gName 7) (gCons (gName 8) gNil))))
        (tSeq (tIfS (tTest (tOp (rI0 fun i j => V.bl (decide (i < j))) (tVar 5) (tVar 7))) (tRet (tOp (rI0 fun i j => V.int (i + j)) (tVar 6) (tOp (rI CMulB fun i j => V.int (i * j)) (tVar 5) (tVar 8)))) tNext) (tAug 5 (tVar 7) (ipI fun i j => i - j)))
        { nx := tRet (tC V.non) { nx := fun x H' => Q V.non H', rt := Q }, rt := Q }
        [some (V.int n), some (V.int s), some (V.int i), some (V.int k), some v, some (V.int k), none, none, none] H2 := by
    intro v H2 e2 hv
    cases hv with
    | lst sf hf rt =>
    rename_i L ys
    have hB := big_200
    simp only [tFor_lst]
    walk_at "rd"
    refine forL_in (xs := ys) (sq_l hf) (fun j σ' H' => Ex H2 H' ∧ ∃ (k' : Int) (x y z : Option V), σ' = [some (.int n), some (.int s), some (.int i), some (.int k), some (.ref L), some (.int k'), x, y, z] ∧ 0 ≤ k' ∧ k' ≤ k ∧ pickG ((goesL n s i 0).drop j) k' = goAt n s i k) ⟨.refl _, k, _, _, _, rfl, k0, Int.le_refl _, by rw [List.drop_zero]; rfl⟩ ?_ ?_ ?_
    · intro j σ' H' _ h
      exact Evl.ex_l h.1 (sq_l hf)
    · rintro σ' H' ⟨e, k', x, y, z, rfl, k2, k3, k4⟩
      walk_at "rd"
      have := q H' (e2.trans e)
      rw [← k4, List.drop_eq_nil_of_le (by rw [rt.len, List.length_map]; exact Nat.le_refl _)] at this
      exact this
    · rintro j w σ' H' hx ⟨e, k', x, y, z, rfl, k2, k3, k4⟩
      obtain ⟨d, hd, rp⟩ := rt.at' hx
      rw [List.getElem?_map] at hd
      obtain ⟨g, hg, rfl⟩ := Option.map_eq_some_iff.mp hd
      have gi := goes_in n s hb.1 hb.2.2.1 i 0 (by omega) g (List.mem_of_getElem? hg)
      have hdr : (goesL n s i 0).drop j = g :: (goesL n s i 0).drop (j + 1) := by
        obtain ⟨hl, e⟩ := List.getElem?_eq_some_iff.mp hg
        rw [List.drop_eq_getElem_cons hl, e]
      rw [hdr] at k4
      cases rp with
      | tup sf2 hf2 rt2 =>
      rename_i T zs
      cases rt2 with | cons r1 t1 => cases t1 with | cons r2 t2 => cases t2 with | cons r3 t3 =>
      cases r1; cases r2; cases r3; cases t3
      walk_at "rd"
      simp only [e _ _ hf2]
      walk_at "rd"
      unfold pickG at k4
      refine ite2 (fun h => ?_) fun h => ?_
      · rw [if_pos h] at k4
        refine ⟨by unfold CMulB; omega, ?_⟩
        have := q H' (e2.trans e)
        rw [← k4] at this
        exact this
      · rw [if_neg h] at k4
        exact ⟨e, by omega, by omega, k4⟩
  refine ⟨hb, i0, i1, fun v H2 e2 hv => ⟨some k, rfl, ?_⟩⟩
  exact iteNo (by simp) (iteNo (by omega) (IH v H2 e2 hv))
def sp_most_repeated (K : PySem.W.Frag) : Sp := sp2 fun x y H Q _ => ∃ (n s : Int), x = .int n ∧ y = .int s ∧ PB n s ∧ (n = 1 → ∀ H', Ex H H' → Q .non H') ∧ (n ≠ 1 → ∀ p H', H p = none → Ex H H' → H' p = some (.tup [.int (rho n s), .int (mostAt n s 0)]) → Q (.ref p) H')
theorem sc_most_repeated : FnScope ["length", "slots", "part", "wanted", "most", "split", "behind", "ahead"] ["length", "slots"] (defScope s_most_repeated) := ⟨rfl, rfl, rfl, by decide +kernel, rfl, by decide +kernel, by decide +kernel⟩
theorem ok_most_repeated (T : Txt P w K mg base) : FnOk P w K mg base (L2.CX P w) 6 T.a_most_repeated T.fd_most_repeated ["length", "slots"] (sp_most_repeated K) := by
  refine FunD.ok T.F_most_repeated sc_most_repeated (fun vs H Q E h => ar2 h) (fun cdv A fr s H vs Q E hr h => ⟨_, PSs.nox (Evl.pss_cut (ps_set (i := 2) sc_most_repeated.nd rfl (.inl rfl) (pe_call (ok_whole_plan T) hr (by rfl) T.g_whole_plan T.F_whole_plan.kp T.b_whole_plan .nil passL (pa_cons (pv 0) (pa_cons (pv 1) pa_nil)))) (Evl.pss_cut (ps_if (pt_cmpR op_eq (pv 0) pe_int (nomark _)) (pss_one (ps_ret pe_non)) pss_nil) (Evl.pss_cut (ps_par (i := 3) (j := 4) (by rfl) sc_most_repeated.nd rfl rfl (by decide) rfl rfl (pa_cons (pe_ix ix_tupT (pv 2) pe_int (fun _ _ => rfl)) (pa_cons (pe_ix ix_tupT (pv 2) pe_int (fun _ _ => rfl)) pa_nil)) (by rfl)) (pss_cons (ps_while PassesOwn.never (PW.pt (pw_and (pt_cmpR op_gt (pe_ix ix_tupT (pv 2) pe_int (fun _ _ => rfl)) pe_int (nomark _)) (pw_and1 (pt_cmpR op_gt (pe_ix ix_tupT (pv 2) pe_int (fun _ _ => rfl)) pe_int (nomark _))))) (Evl.pss_cut (ps_asg (pe_call (ok_parts_of T) (hr.mono (by decide)) (by rfl) T.g_parts_of T.F_parts_of.kp T.b_parts_of .nil passL (pa_cons (pv 2) pa_nil)) (pg_tupT (n := 3) rfl (pgs_cons (pg_name (i := 5) sc_most_repeated.nd rfl (.inl rfl)) (pgs_cons (pg_name (i := 6) sc_most_repeated.nd rfl (.inl rfl)) (pgs_cons (pg_name (i := 7) sc_most_repeated.nd rfl (.inl rfl)) pgs_nil))))) (pss_one (ps_if (PW.pt (pw_and (pt_cmpR op_gt (pv 5) pe_int (nomark _)) (pw_and1 (pt_cmpR op_eq (pe_ix ix_tupT (pv 7) pe_int (fun _ _ => rfl)) (pe_op op_sub (pv 3) pe_int) (nomark _))))) (pss_one (ps_par (i := 2) (j := 3) (by rfl) sc_most_repeated.nd rfl rfl (by decide) rfl rfl (pa_cons (pv 7) (pa_cons (pe_op op_sub (pv 3) pe_int) pa_nil)) (by rfl))) (pss_one (ps_if (PW.pt (pw_and (pt_cmpR op_eq (pv 3) pe_int (nomark _)) (pw_and1 (pt_cmpR op_eq (pv 5) pe_int (nomark _))))) (pss_one (ps_ret (pe_tup (pa_cons (pv 4) (pa_cons (pe_ix ix_tupT (pv 2) pe_int (fun _ _ => rfl)) pa_nil))))) (pss_one (ps_set (i := 2) sc_most_repeated.nd rfl (.inl rfl) (pv 6))))))))) (pss_one (ps_ret (pe_tup (pa_cons (pv 4) (pa_cons (pe_ix ix_tupT (pv 2) pe_int (fun _ _ => rfl)) pa_nil))))))))), ?_⟩)
  obtain ⟨_, _, rfl, n, s, rfl, rfl, hb, q1, q2⟩ := h
  refine Evl.q_cut (M := fun σ' H' => ∃ l : Addr, σ' = [some (.int n), some (.int s), some (.ref l), none, none, none, none, none] ∧ Ex H H' ∧ H' l = some (.tup ((planT 0 n s).map V.int))) ?_ ?_
  · unfold sp_whole_plan
    walk_at "rd"
    exact ⟨hb, fun p H2 hp e2 h2 => ⟨e2, h2⟩⟩
  rintro σ H1 ⟨l, rfl, e1, hl⟩
  refine Evl.q_cut (M := fun σ' H' => σ' = [some (.int n), some (.int s), some (.ref l), none, none, none, none, none] ∧ H1 = H' ∧ n ≠ 1) ?_ ?_
  · walk_at "rd"
    refine ite2 (fun h => q1 h _ e1) fun h => h
  rintro σ _ ⟨rfl, rfl, hn1⟩
  refine Evl.q_cut (M := fun σ' H' => σ' = [some (.int n), some (.int s), some (.ref l), some (.int (rho n s)), some (.int (rho n s)), none, none, none] ∧ H1 = H') ?_ ?_
  · walk_at "rd"
    simp only [hl, planT]
    walk_at "rd"
  rintro σ _ ⟨rfl, rfl⟩
  walk_at "rd"
  refine ⟨fun m σ H' => Ex H H' ∧ ∃ (l : Addr) (b' n' s' : Int) (x y z : Option V), σ = [some (.int n), some (.int s), some (.ref l), some (.int (rho n' s')), some (.int (rho n s)), x, y, z] ∧ H' l = some (.tup ((planT b' n' s').map V.int)) ∧ PB n' s' ∧ mostAt n' s' b' = mostAt n s 0 ∧ m = n'.toNat,
    ⟨_, e1, l, 0, n, s, _, _, _, rfl, hl, hb, rfl, rfl⟩, ?_⟩
  rintro m σ H2 ⟨e2, l, b', n', s', x, y, z, rfl, hl2, hb', eo, rfl⟩
  walk_at "rd"
  have h1 := hb'.1
  have h3 := hb'.2.2.1
  have row : mostAt n' s' b' = b' → ∀ p, H2 p = none → Q (.ref p) (upd H2 p (.tup [.int (rho n s), .int b'])) := fun h p hp =>
    q2 hn1 p _ (Evl.fresh_back e2 hp) (e2.trans (exn hp)) (by rw [upd_same, ← eo, h])
  simp only [hl2, planT]
  walk_at "rd"
  refine ite2 (fun hn => ite2 (fun hs => ?_) fun hs => row (mostAt_row (.inr (by omega)))) fun hn => row (mostAt_row (.inl (by omega)))
  have hn : 2 ≤ n' := by omega
  have hs : 2 ≤ s' := by omega
  obtain ⟨l1, l2, l3⟩ := loz_range hn hs
  have pr := hb'.rest hn hs
  have pa := hb'.ahead hn hs
  have eb := mostAt_two (n := n') (s := s') (b := b') hn hs
  refine ⟨fun σ' H'' => Ex H H'' ∧ ∃ (l : Addr) (b2 n2 s2 : Int) (x y z : Option V), σ' = [some (.int n), some (.int s), some (.ref l), some (.int (rho n2 s2)), some (.int (rho n s)), x, y, z] ∧ H'' l = some (.tup ((planT b2 n2 s2).map V.int)) ∧ PB n2 s2 ∧ mostAt n2 s2 b2 = mostAt n s 0 ∧ n2.toNat < n'.toNat,
    fun σ' H'' ⟨e, l, b2, n2, s2, x, y, z, e1, e2, e3, e4, e5⟩ => ⟨_, e5, e, l, b2, n2, s2, x, y, z, e1, e2, e3, e4, rfl⟩, ?_⟩
  refine Evl.q_cut (M := fun σ' H' => ∃ c d, σ' = [some (.int n), some (.int s), some (.ref l), some (.int (rho n' s')), some (.int (rho n s)), some (.int (hiz n' s')), some (.ref c), some (.ref d)] ∧ Ex H2 H' ∧ H' c = some (.tup ((planT (b' + hiz n' s') (n' - hiz n' s') (s' - 1)).map V.int)) ∧ H' d = some (.tup ((planT b' (hiz n' s') s').map V.int))) ?_ ?_
  · unfold sp_parts_of
    walk_at "rd"
    refine ⟨b', n', s', hl2, hb', hn, hs, fun p c d H2 hp e2 h1 h2 h3 => ?_⟩
    simp only [h1]
    walk_at "rd"
    exact ⟨e2, h2, h3⟩
  rintro σ H3 ⟨c, d, rfl, e3, hc, hd⟩
  have e23 := e2.trans e3
  walk_at "rd"
  simp only [hc, hd, e3 _ _ hl2, planT]
  walk_at "rd"
  have rest : ¬ (hiz n' s' > 1 ∧ rho (hiz n' s') s' = rho n' s' - 1) → ¬ (rho n' s' = 1 ∧ hiz n' s' = 1) → Ex H H3 ∧ ∃ x x_1 x_2, rho n' s' = rho x_1 x_2 ∧ b' + hiz n' s' = x ∧ n' - hiz n' s' = x_1 ∧ s' - 1 = x_2 ∧ rho (n' - hiz n' s') (s' - 1) = rho x_1 x_2 ∧
      Rz (s' - 1) (rho (n' - hiz n' s') (s' - 1)) = Rz x_2 (rho x_1 x_2) ∧ opsN (n' - hiz n' s') (s' - 1) = opsN x_1 x_2 ∧ PB x_1 x_2 ∧ mostAt x_1 x_2 x = mostAt n s 0 ∧ x_1.toNat < n'.toNat := fun hA hB =>
    ⟨e23, _, _, _, (most_rest hn hs hA hB).symm, rfl, rfl, rfl, rfl, rfl, rfl, pr, by rw [← eo, eb, if_neg hA, if_neg hB], by omega⟩
  have more : ¬ (hiz n' s' > 1 ∧ rho (hiz n' s') s' = rho n' s' - 1) → rho n' s' = 1 → hiz n' s' = 1 → ∀ p : Addr, H3 p = none → Q (.ref p) (upd H3 p (.tup [.int (rho n s), .int b'])) := fun hA h1 h2 p hp =>
    q2 hn1 p _ (Evl.fresh_back e23 hp) (e23.trans (exn hp)) (by rw [upd_same, ← eo, eb, if_neg hA, if_pos ⟨h1, h2⟩])
  refine ite2 (fun h1 => ite2 (fun h2 => ?_) fun h2 => ?_) fun h1 => ?_
  · exact ⟨e23, _, _, _, h2.symm, rfl, rfl, rfl, rfl, rfl, rfl, pa, by rw [← eo, eb, if_pos ⟨h1, h2⟩], by omega⟩
  · exact ite2 (fun h3 => ite2 (fun h4 => more (fun k => h2 k.2) h3 h4) fun h4 => rest (fun k => h2 k.2) (fun k => h4 k.2)) fun h3 => rest (fun k => h2 k.2) (fun k => h3 k.1)
  · exact ite2 (fun h3 => ite2 (fun h4 => more (fun k => h1 k.1) h3 h4) fun h4 => rest (fun k => h1 k.1) (fun k => h4 k.2)) fun h3 => rest (fun k => h1 k.1) (fun k => h3 k.1)
/-! ### moments -/
def moF (t : MSt) (KL : Addr) : List (Str × V) := [("own_hand", .int t.hand), ("own_kept", .ref KL), ("own_steps", .int t.steps), ("own_backs", .int t.backs)]
def Mom (K : PySem.W.Frag) (H : Hp) (M KL : Addr) (t : MSt) : Prop := (∃ dM, H M = some (.ins (He.ga K "Moment") dM (moF t KL))) ∧ H KL = some (.lst (t.kept.map V.int)) ∧ t.kept.length ≤ 1000
def But (R : Addr → Prop) (H H' : Hp) : Prop := ∀ b o, ¬ R b → H b = some o → H' b = some o
theorem But.refl {R : Addr → Prop} {H : Hp} : But R H H := fun _ _ _ h => h
theorem But.trans {R : Addr → Prop} {H H1 H2 : Hp} (a : But R H H1) (b : But R H1 H2) : But R H H2 := fun c o n h => b c o n (a c o n h)
theorem But.ex {R : Addr → Prop} {H H1 : Hp} (e : Ex H H1) : But R H H1 := fun c o _ h => e c o h
theorem But.up {R R' : Addr → Prop} {H H1 : Hp} (a : But R H H1) (h : ∀ b, R b → R' b) : But R' H H1 := fun c o n q => a c o (fun z => n (h c z)) q
theorem But.upd {R : Addr → Prop} {H : Hp} {a : Addr} {o : HO} (h : R a) : But R H (upd H a o) := fun c u n q => by rw [upd_ne (fun z => n (by rw [z]; exact h))]; exact q
abbrev MR (M KL : Addr) : Addr → Prop := fun b => b = M ∨ b = KL
theorem term_over {s r : Int} (hs : 1 ≤ s) (hr : 0 ≤ r) : Rz s r * r / (s + 1) = Rz (s + 1) (r - 1) := by
  by_cases h : r = 0
  · subst h
    rw [show (0 : Int) - 1 = -1 by rfl, Rz_neg (by omega), Int.mul_zero, Int.zero_ediv]
  · obtain ⟨k, rfl⟩ := nat_succ (show 1 ≤ r by omega)
    obtain ⟨j, rfl⟩ := Int.eq_ofNat_of_zero_le (show 0 ≤ s by omega)
    rw [show (k : Int) + 1 - 1 = (k : Int) by omega, show (k : Int) + 1 = ((k + 1 : Nat) : Int) by omega, show (j : Int) + 1 = ((j + 1 : Nat) : Int) by omega, Rz_nat, Rz_nat]
    have e : R j (k + 1) * (k + 1) = R (j + 1) k * (j + 1) := by rw [R_right, R_up]
    have e2 : ((R j (k + 1) : Nat) : Int) * ((k + 1 : Nat) : Int) = ((R (j + 1) k : Nat) : Int) * ((j + 1 : Nat) : Int) := by
      rw [← Int.natCast_mul, ← Int.natCast_mul, e]
    rw [e2]
    exact Int.mul_ediv_cancel _ (by omega)
def sp_Moment___init__ (K : PySem.W.Frag) : Sp := sp1 fun x H Q _ => ∃ (M dM : Addr), x = .ref M ∧ H M = some (.ins (He.ga K "Moment") dM []) ∧
  ∀ H' KL, But (· = M) H H' → H KL = none → Mom K H' M KL ⟨0, [0], 0, 0⟩ → Q .non H'
theorem sc_Moment___init__ : FnScope ["self"] ["self"] (defScope s_Moment___init__) := ⟨rfl, rfl, rfl, by decide +kernel, rfl, by decide +kernel, by decide +kernel⟩
theorem ok_Moment___init__ (T : Txt P w K mg base) : FnOk P w K mg base (L2.CX P w) 1 T.a_Moment___init__ T.fd_Moment___init__ ["self"] (sp_Moment___init__ K) := by
  refine FunD.ok T.F_Moment___init__ sc_Moment___init__ (fun vs H Q E h => ar1 h) (fun cdv A fr s H vs Q E hr h => ⟨_, PSs.nox (pss_cons (ps_fld (pv 0) pe_int rfl) (pss_cons (ps_fld (pv 0) (pe_lst (pa_cons pe_int pa_nil)) rfl) (pss_cons (ps_fld (pv 0) pe_int rfl) (pss_one (ps_fld (pv 0) pe_int rfl))))), ?_⟩)
  obtain ⟨_, rfl, M, dM, rfl, hM, q⟩ := h
  walk_at "rd"
  refine ⟨_, _, _, hM, T.c_Moment, T.n_Moment_own_hand, (show 0 < 1000 by decide), fun p hp => ⟨_, _, _, exn hp _ _ upd_same, T.c_Moment, T.n_Moment_own_kept, (show 1 < 1000 by decide), T.c_Moment, T.n_Moment_own_steps, (show 2 < 1000 by decide), T.c_Moment, T.n_Moment_own_backs, (show 3 < 1000 by decide), ?_⟩⟩
  have np : p ≠ M := fun z => by rw [z, upd_same] at hp; cases hp
  have bu : ∀ {H : Hp} {o : HO}, But (· = M) H (upd H M o) := But.upd rfl
  have hp0 : H p = none := by rw [upd_ne np] at hp; exact hp
  refine q _ p ((((bu.trans (But.ex (exn hp))).trans bu).trans bu).trans bu) hp0 ⟨⟨dM, upd_same⟩, ?_, by show 1 ≤ 1000; decide⟩
  rw [upd_ne np, upd_ne np, upd_ne np, upd_same]
  rfl
def sp_Moment_go (K : PySem.W.Frag) : Sp := sp3 fun x y z H Q _ => ∃ (M KL : Addr) (t : MSt) (b k : Int), x = .ref M ∧ y = .int b ∧ z = .int k ∧ Mom K H M KL t ∧ ∀ H', But (MR M KL) H H' → Mom K H' M KL (t.go b k) → Q .non H'
theorem sc_Moment_go : FnScope ["self", "state", "steps"] ["self", "state", "steps"] (defScope s_Moment_go) := ⟨rfl, rfl, rfl, by decide +kernel, rfl, by decide +kernel, by decide +kernel⟩
theorem ok_Moment_go (T : Txt P w K mg base) : FnOk P w K mg base (L2.CX P w) 1 T.a_Moment_go T.fd_Moment_go ["self", "state", "steps"] (sp_Moment_go K) := by
  refine FunD.ok T.F_Moment_go sc_Moment_go (fun vs H Q E h => ar3 h) (fun cdv A fr s H vs Q E hr h => ⟨_, PSs.nox (pss_cons (ps_fld (pv 0) (pe_op op_add (pv 1) (pv 2)) rfl) (pss_one (ps_fldaug (pv 0) (pv 2) in_add))), ?_⟩)
  obtain ⟨_, _, _, rfl, M, KL, t, b, k, rfl, rfl, rfl, ⟨⟨dM, hM⟩, hK, hl⟩, q⟩ := h
  walk_at "rd"
  have nMK : KL ≠ M := fun z => by rw [z, hM] at hK; cases hK
  refine ⟨_, _, _, hM, T.c_Moment, T.n_Moment_own_hand, (show 4 < 1000 by decide), T.c_Moment, T.n_Moment_own_steps, _, rfl, _, rfl, (show 4 < 1000 by decide), ?_⟩
  exact q _ ((But.upd (.inl rfl)).trans (But.upd (.inl rfl))) ⟨⟨dM, upd_same⟩, by rw [upd_ne nMK, upd_ne nMK]; exact hK, hl⟩
def sp_Moment_keep (K : PySem.W.Frag) : Sp := sp2 fun x y H Q _ => ∃ (M KL : Addr) (t : MSt) (b : Int), x = .ref M ∧ y = .int b ∧ Mom K H M KL t ∧ t.kept.length ≤ 999 ∧ ∀ H', But (MR M KL) H H' → Mom K H' M KL (t.keep b) → Q .non H'
theorem sc_Moment_keep : FnScope ["self", "state"] ["self", "state"] (defScope s_Moment_keep) := ⟨rfl, rfl, rfl, by decide +kernel, rfl, by decide +kernel, by decide +kernel⟩
theorem ok_Moment_keep (T : Txt P w K mg base) : FnOk P w K mg base (L2.CX P w) 1 T.a_Moment_keep T.fd_Moment_keep ["self", "state"] (sp_Moment_keep K) := by
  refine FunD.ok T.F_Moment_keep sc_Moment_keep (fun vs H Q E h => ar2 h) (fun cdv A fr s H vs Q E hr h => ⟨_, PSs.nox (pss_one (ps_expr (pe_bm PySem.F.plainAttrs_list PySem.F.slot_list_append PySem.F.type_list_append mt_append (pe_fld (pv 0) rfl) (pa_cons (pv 1) pa_nil)))), ?_⟩)
  obtain ⟨_, _, rfl, M, KL, t, b, rfl, rfl, ⟨⟨dM, hM⟩, hK, hl⟩, hl2, q⟩ := h
  walk_at "rd"
  have nMK : KL ≠ M := fun z => by rw [z, hM] at hK; cases hK
  refine ⟨_, _, _, hM, T.c_Moment, T.n_Moment_own_kept, _, rfl, .inl ⟨rfl, _, sq_l hK⟩, _, rfl, _, hK, ?_, ?_⟩
  · rw [List.length_map]; omega
  · exact q _ (But.upd (.inr rfl)) ⟨⟨dM, by rw [upd_ne (Ne.symm nMK)]; exact hM⟩, by rw [upd_same]; show _ = some (HO.lst ((t.kept ++ [b]).map V.int)); rw [List.map_append]; rfl, by show (t.kept ++ [b]).length ≤ 1000; rw [List.length_append]; show t.kept.length + 1 ≤ 1000; omega⟩
def sp_Moment_take (K : PySem.W.Frag) : Sp := sp2 fun x y H Q _ => ∃ (M KL : Addr) (t : MSt) (b : Int), x = .ref M ∧ y = .int b ∧ Mom K H M KL t ∧ ∀ H', But (MR M KL) H H' → Mom K H' M KL (t.take b) → Q .non H'
theorem sc_Moment_take : FnScope ["self", "state"] ["self", "state"] (defScope s_Moment_take) := ⟨rfl, rfl, rfl, by decide +kernel, rfl, by decide +kernel, by decide +kernel⟩
theorem ok_Moment_take (T : Txt P w K mg base) : FnOk P w K mg base (L2.CX P w) 1 T.a_Moment_take T.fd_Moment_take ["self", "state"] (sp_Moment_take K) := by
  refine FunD.ok T.F_Moment_take sc_Moment_take (fun vs H Q E h => ar2 h) (fun cdv A fr s H vs Q E hr h => ⟨_, PSs.nox (pss_one (ps_fld (pv 0) (pv 1) rfl)), ?_⟩)
  obtain ⟨_, _, rfl, M, KL, t, b, rfl, rfl, ⟨⟨dM, hM⟩, hK, hl⟩, q⟩ := h
  walk_at "rd"
  have nMK : KL ≠ M := fun z => by rw [z, hM] at hK; cases hK
  refine ⟨_, _, _, hM, T.c_Moment, T.n_Moment_own_hand, (show 4 < 1000 by decide), ?_⟩
  exact q _ (But.upd (.inl rfl)) ⟨⟨dM, upd_same⟩, by rw [upd_ne nMK]; exact hK, hl⟩
def sp_Moment_free_last (K : PySem.W.Frag) : Sp := sp1 fun x H Q _ => ∃ (M KL : Addr) (t : MSt) (b : Int), x = .ref M ∧ Mom K H M KL (t.keep b) ∧ ∀ H', But (MR M KL) H H' → Mom K H' M KL t → Q .non H'
theorem sc_Moment_free_last : FnScope ["self"] ["self"] (defScope s_Moment_free_last) := ⟨rfl, rfl, rfl, by decide +kernel, rfl, by decide +kernel, by decide +kernel⟩
theorem ok_Moment_free_last (T : Txt P w K mg base) : FnOk P w K mg base (L2.CX P w) 1 T.a_Moment_free_last T.fd_Moment_free_last ["self"] (sp_Moment_free_last K) := by
  refine FunD.ok T.F_Moment_free_last sc_Moment_free_last (fun vs H Q E h => ar1 h) (fun cdv A fr s H vs Q E hr h => ⟨_, PSs.nox (pss_one (ps_expr (pe_bm0 PySem.F.plainAttrs_list PySem.F.slot_list_pop PySem.F.type_list_pop mt_pop (pe_fld (pv 0) rfl)))), ?_⟩)
  obtain ⟨_, rfl, M, KL, t, b, rfl, ⟨⟨dM, hM⟩, hK, hl⟩, q⟩ := h
  walk_at "rd"
  have nMK : KL ≠ M := fun z => by rw [z, hM] at hK; cases hK
  refine ⟨_, _, _, hM, T.c_Moment, T.n_Moment_own_kept, _, rfl, .inl ⟨rfl, _, sq_l hK⟩, ?_⟩
  refine ⟨KL, _, .int b, rfl, rfl, hK, ?_, ?_⟩
  · show (List.map V.int (t.kept ++ [b]))[(List.map V.int (t.kept ++ [b])).length - 1]? = _
    rw [List.map_append, List.length_append, List.length_map]
    show (List.map V.int t.kept ++ [V.int b])[t.kept.length]? = _
    rw [List.getElem?_append_right (by rw [List.length_map]; exact Nat.le_refl _), List.length_map, Nat.sub_self]
    rfl
  · have e : (List.map V.int (t.keep b).kept).dropLast = t.kept.map V.int := by
      show (List.map V.int (t.kept ++ [b])).dropLast = _
      rw [List.map_append]
      exact List.dropLast_concat
    rw [e]
    have hl2 : t.kept.length + 1 ≤ 1000 := by
      have : (t.keep b).kept.length = t.kept.length + 1 := List.length_append
      omega
    exact q _ (But.upd (.inr rfl)) ⟨⟨dM, by rw [upd_ne (Ne.symm nMK)]; exact hM⟩, upd_same, by omega⟩
def sp_Moment_pass_part (K : PySem.W.Frag) : Sp := sp2 fun x y H Q _ => ∃ (M KL a : Addr) (t : MSt) (b n s : Int), x = .ref M ∧ y = .ref a ∧ Mom K H M KL t ∧ H a = some (.tup ((planT b n s).map V.int)) ∧ PB n s ∧ ∀ H', But (MR M KL) H H' → Mom K H' M KL (t.passP b n s) → Q .non H'
theorem sc_Moment_pass_part : FnScope ["self", "part", "spared"] ["self", "part"] (defScope s_Moment_pass_part) := ⟨rfl, rfl, rfl, by decide +kernel, rfl, by decide +kernel, by decide +kernel⟩
theorem ok_Moment_pass_part (T : Txt P w K mg base) : FnOk P w K mg base (L2.CX P w) 1 T.a_Moment_pass_part T.fd_Moment_pass_part ["self", "part"] (sp_Moment_pass_part K) := by
  refine FunD.ok T.F_Moment_pass_part sc_Moment_pass_part (fun vs H Q E h => ar2 h) (fun cdv A fr s H vs Q E hr h => ⟨_, PSs.nox (Evl.pss_cut (ps_fld (pv 0) (pe_ix ix_tupT (pv 1) pe_int (fun _ _ => rfl)) rfl) (Evl.pss_cut (ps_set (i := 2) sc_Moment_pass_part.nd rfl (.inl rfl) (pe_op op_divB (pe_op op_mulB (pe_ix ix_tupT (pv 1) pe_int (fun _ _ => rfl)) (pe_ix ix_tupT (pv 1) pe_int (fun _ _ => rfl))) (pe_op op_add (pe_ix ix_tupT (pv 1) pe_int (fun _ _ => rfl)) pe_int))) (Evl.pss_cut (ps_fldaug (pv 0) (pe_op op_sub (pe_op op_mulB (pe_ix ix_tupT (pv 1) pe_int (fun _ _ => rfl)) (pe_ix ix_tupT (pv 1) pe_int (fun _ _ => rfl))) (pv 2)) in_add) (pss_one (ps_fldaug (pv 0) (pe_ix ix_tupT (pv 1) pe_int (fun _ _ => rfl)) in_add))))), ?_⟩)
  obtain ⟨_, _, rfl, M, KL, a, t, b, n, s, rfl, rfl, ⟨⟨dM, hM⟩, hK, hl⟩, ha, hb, q⟩ := h
  have nMK : KL ≠ M := fun z => by rw [z, hM] at hK; cases hK
  obtain ⟨b1, b2, b3, b4⟩ := hb.big
  have na : ∀ {H' : Hp}, But (· = M) H H' → H' a = some (.tup ((planT b n s).map V.int)) := fun h => h _ _ (fun z => by rw [z, hM] at ha; cases ha) ha
  have nk : ∀ {H' : Hp}, But (· = M) H H' → H' KL = some (.lst (t.kept.map V.int)) := fun h => h _ _ nMK hK
  refine Evl.q_cut (M := fun σ' H' => σ' = [some (.ref M), some (.ref a), none] ∧ But (· = M) H H' ∧ H' M = some (.ins (He.ga K "Moment") dM (moF { t with hand := b } KL))) ?_ ?_
  · walk_at "rd"
    exact ⟨_, ha, _, atI_0, _, _, _, hM, T.c_Moment, T.n_Moment_own_hand, (show 4 < 1000 by decide), But.upd rfl, rfl, rfl, rfl⟩
  rintro σ H1 ⟨rfl, e1, h1⟩
  have a1 := na e1
  refine Evl.q_cut (M := fun σ' H' => σ' = [some (.ref M), some (.ref a), some (.int (Rz (s + 1) (rho n s - 1)))] ∧ H1 = H') ?_ ?_
  · walk_at "rd"
    refine ⟨_, a1, _, atI_nat (j := 4) rfl, _, a1, _, atI_nat (j := 3) rfl, _, rfl, _, rfl, ?_, _, a1, _, atI_2, _, rfl, ?_, ?_⟩
    · have := hb.2.2.2.2
      unfold CMulB
      omega
    · have := hb.2.2.2.1
      have := hb.2.2.1
      unfold CDivB
      omega
    · exact term_over hb.2.2.1 b1
  rintro σ _ ⟨rfl, rfl⟩
  refine Evl.q_cut (M := fun σ' H' => σ' = [some (.ref M), some (.ref a), some (.int (Rz (s + 1) (rho n s - 1)))] ∧ But (· = M) H H' ∧ H' M = some (.ins (He.ga K "Moment") dM (moF { t with hand := b, steps := t.steps + tz n s } KL))) ?_ ?_
  · walk_at "rd"
    refine ⟨_, _, _, h1, T.c_Moment, T.n_Moment_own_steps, _, rfl, _, a1, _, atI_nat (j := 3) rfl, _, a1, _, atI_1, _, rfl, _, rfl, ?_, _, rfl, _, _, h1, (show 4 < 1000 by decide), e1.trans (But.upd rfl), rfl, rfl, rfl⟩
    have := hb.2.2.2.2
    have := hb.1
    have := hb.2.1
    unfold CMulB
    omega
  rintro σ H2 ⟨rfl, e2, h2⟩
  have a2 := na e2
  walk_at "rd"
  refine ⟨_, _, _, h2, T.c_Moment, T.n_Moment_own_backs, _, rfl, _, a2, _, atI_1, _, rfl, _, rfl, _, _, h2, (show 4 < 1000 by decide), ?_⟩
  have e3 := e2.trans (But.upd (R := (· = M)) (H := H2) (a := M) (o := .ins (He.ga K "Moment") dM (moF (t.passP b n s) KL)) rfl)
  exact q _ (e3.up fun _ h => .inl h) ⟨⟨dM, upd_same⟩, nk e3, hl⟩
def sp_Moment_pass_row (K : PySem.W.Frag) : Sp := sp3 fun x y z H Q _ => ∃ (M KL a : Addr) (t : MSt) (b n s i : Int), x = .ref M ∧ y = .ref a ∧ z = .int i ∧ Mom K H M KL t ∧ H a = some (.tup ((planT b n s).map V.int)) ∧ PB n s ∧ 0 < i ∧ i ≤ 10 ^ 60 ∧ ∀ H', But (MR M KL) H H' → Mom K H' M KL (t.passR b n i) → Q .non H'
theorem sc_Moment_pass_row : FnScope ["self", "part", "many", "state", "length", "turns", "rest"] ["self", "part", "many"] (defScope s_Moment_pass_row) := ⟨rfl, rfl, rfl, by decide +kernel, rfl, by decide +kernel, by decide +kernel⟩
theorem ok_Moment_pass_row (T : Txt P w K mg base) : FnOk P w K mg base (L2.CX P w) 2 T.a_Moment_pass_row T.fd_Moment_pass_row ["self", "part", "many"] (sp_Moment_pass_row K) := by
  refine FunD.ok T.F_Moment_pass_row sc_Moment_pass_row (fun vs H Q E h => ar3 h) (fun cdv A fr s H vs Q E hr h => ⟨_, PSs.nox (Evl.pss_cut (ps_par (i := 3) (j := 4) (by rfl) sc_Moment_pass_row.nd rfl rfl (by decide) rfl rfl (pa_cons (pe_ix ix_tupT (pv 1) pe_int (fun _ _ => rfl)) (pa_cons (pe_ix ix_tupT (pv 1) pe_int (fun _ _ => rfl)) pa_nil)) (by rfl)) (Evl.pss_cut (ps_asg (pe_callB call_divmod (by rfl) T.n_divmod (by decide +kernel) (pa_cons (pv 2) (pa_cons pe_int pa_nil))) (pg_tupT (n := 2) rfl (pgs_cons (pg_name (i := 5) sc_Moment_pass_row.nd rfl (.inl rfl)) (pgs_cons (pg_name (i := 6) sc_Moment_pass_row.nd rfl (.inl rfl)) pgs_nil)))) (Evl.pss_cut (ps_fld (pv 0) (pv 3) rfl) (Evl.pss_cut (ps_fldaug (pv 0) (pe_op op_sub (pe_op op_mulB (pv 5) (pe_op op_sub (pv 4) pe_int)) (pe_op op_divB (pe_op op_mulB (pv 5) (pe_op op_sub (pv 5) pe_int)) pe_int)) in_add) (Evl.pss_cut (ps_fldaug (pv 0) (pe_op op_add (pv 5) (pe_callTy call_intB (by rfl) T.n_int (by decide +kernel) (pa_cons (pe_cmpR op_eq (pv 6) pe_int (nomark _)) pa_nil))) in_add) (pss_one (ps_if (pt_cmpR op_gt (pv 6) pe_int (nomark _)) (pss_one (ps_expr (pe_meth (pv 0) T.c_Moment T.m_Moment_go (ok_Moment_go T) hr T.b_Moment_go .nil passL (pa_cons (pv 3) (pa_cons (pe_op op_sub (pe_op op_sub (pv 4) pe_int) (pv 5)) pa_nil))))) pss_nil))))))), ?_⟩)
  obtain ⟨_, _, _, rfl, M, KL, a, t, b, n, s, i, rfl, rfl, rfl, ⟨⟨dM, hM⟩, hK, hl⟩, ha, hb, i0, i1, q⟩ := h
  have nMK : KL ≠ M := fun z => by rw [z, hM] at hK; cases hK
  have nk : ∀ {H' : Hp}, But (· = M) H H' → H' KL = some (.lst (t.kept.map V.int)) := fun h => h _ _ nMK hK
  obtain ⟨b1, b2, b3, b4⟩ := hb.big
  refine Evl.q_cut (M := fun σ' H' => σ' = [some (.ref M), some (.ref a), some (.int i), some (.int b), some (.int n), none, none] ∧ H = H') ?_ ?_
  · walk_at "rd"
    exact ⟨_, ha, _, atI_0, _, ha, _, atI_1, rfl, rfl⟩
  rintro σ _ ⟨rfl, rfl⟩
  refine Evl.q_cut (M := fun σ' H' => σ' = [some (.ref M), some (.ref a), some (.int i), some (.int b), some (.int n), some (.int (i / 3)), some (.int (i % 3))] ∧ Ex H H') ?_ ?_
  · walk_at "rd"
    exact ⟨by unfold CDiv; omega, fun p hp => exn hp⟩
  rintro σ H1 ⟨rfl, e1⟩
  refine Evl.q_cut (M := fun σ' H' => σ' = [some (.ref M), some (.ref a), some (.int i), some (.int b), some (.int n), some (.int (i / 3)), some (.int (i % 3))] ∧ But (· = M) H H' ∧ H' M = some (.ins (He.ga K "Moment") dM (moF { t with hand := b } KL))) ?_ ?_
  · walk_at "rd"
    exact ⟨_, _, _, e1 _ _ hM, T.c_Moment, T.n_Moment_own_hand, (show 4 < 1000 by decide), (But.ex e1).trans (But.upd rfl), rfl, rfl, rfl⟩
  rintro σ H2 ⟨rfl, e2, h2⟩
  refine Evl.q_cut (M := fun σ' H' => σ' = [some (.ref M), some (.ref a), some (.int i), some (.int b), some (.int n), some (.int (i / 3)), some (.int (i % 3))] ∧ But (· = M) H H' ∧ H' M = some (.ins (He.ga K "Moment") dM (moF { t with hand := b, steps := t.steps + (i / 3 * (n - 1) - i / 3 * (i / 3 - 1) / 2) } KL))) ?_ ?_
  · walk_at "rd"
    have := hb.1
    have := hb.2.1
    refine ⟨_, _, _, h2, T.c_Moment, T.n_Moment_own_steps, _, rfl, by unfold CMulB; omega, by unfold CMulB; omega, by unfold CDivB; omega, _, rfl, _, _, h2, (show 4 < 1000 by decide), e2.trans (But.upd rfl), rfl, rfl, rfl⟩
  rintro σ H3 ⟨rfl, e3, h3⟩
  refine Evl.q_cut (M := fun σ' H' => σ' = [some (.ref M), some (.ref a), some (.int i), some (.int b), some (.int n), some (.int (i / 3)), some (.int (i % 3))] ∧ But (· = M) H H' ∧ H' M = some (.ins (He.ga K "Moment") dM (moF { t with hand := b, steps := t.steps + (i / 3 * (n - 1) - i / 3 * (i / 3 - 1) / 2), backs := t.backs + (i / 3 + if i % 3 = 2 then 1 else 0) } KL))) ?_ ?_
  · walk_at "rd"
    exact ⟨_, _, _, h3, T.c_Moment, T.n_Moment_own_backs, _, rfl, _, rfl, _, _, h3, (show 4 < 1000 by decide), e3.trans (But.upd rfl), rfl, rfl, rfl⟩
  rintro σ H4 ⟨rfl, e4, h4⟩
  unfold sp_Moment_go
  walk_at "rd"
  refine ite2 (fun h => ⟨_, _, h4, rfl, KL, _, ⟨⟨dM, h4⟩, nk e4, hl⟩, fun H5 e5 m5 => ?_⟩) fun h => ?_
  · have := q H5 ((e4.up fun _ h => .inl h).trans e5)
    unfold MSt.passR at this
    rw [if_pos h, if_pos h] at this
    exact this m5
  · have := q H4 (e4.up fun _ h => .inl h)
    unfold MSt.passR at this
    rw [if_neg h, if_neg h, Int.add_zero] at this
    exact this ⟨⟨dM, h4⟩, nk e4, hl⟩
def MTold (H0 H : Hp) (p : Addr) (t : MSt) : Prop := ∃ p2, H0 p2 = none ∧ H p = some (.tup [.int t.hand, .ref p2, .int t.steps, .int t.backs]) ∧ H p2 = some (.lst (t.kept.map V.int))
def sp_Moment_told (K : PySem.W.Frag) : Sp := sp1 fun x H Q _ => ∃ (M KL : Addr) (t : MSt), x = .ref M ∧ Mom K H M KL t ∧ ∀ p H', Ex H H' → H p = none → MTold H H' p t → Q (.ref p) H'
theorem sc_Moment_told : FnScope ["self"] ["self"] (defScope s_Moment_told) := ⟨rfl, rfl, rfl, by decide +kernel, rfl, by decide +kernel, by decide +kernel⟩
theorem ok_Moment_told (T : Txt P w K mg base) : FnOk P w K mg base (L2.CX P w) 1 T.a_Moment_told T.fd_Moment_told ["self"] (sp_Moment_told K) := by
  refine FunD.ok T.F_Moment_told sc_Moment_told (fun vs H Q E h => ar1 h) (fun cdv A fr s H vs Q E hr h => ⟨_, PSs.nox (pss_one (ps_ret (pe_tup (pa_cons (pe_fld (pv 0) rfl) (pa_cons (pe_callTy call_list_of (by rfl) T.n_list (by decide +kernel) (pa_cons (pe_fld (pv 0) rfl) pa_nil)) (pa_cons (pe_fld (pv 0) rfl) (pa_cons (pe_fld (pv 0) rfl) pa_nil))))))), ?_⟩)
  obtain ⟨_, rfl, M, KL, t, rfl, ⟨⟨dM, hM⟩, hK, hl⟩, q⟩ := h
  walk_at "rd"
  have nl : ∀ {l : Addr} {o : HO}, H l = none → upd H l o M = some (.ins (He.ga K "Moment") dM (moF t KL)) := fun h => exn h _ _ hM
  refine ⟨_, _, _, hM, T.c_Moment, T.n_Moment_own_hand, _, rfl, _, _, _, hM, T.c_Moment, T.n_Moment_own_kept, _, rfl, _, rfl, _, .inl (sq_l hK), fun l hl0 => ⟨_, _, _, nl hl0, T.c_Moment, T.n_Moment_own_steps, _, rfl, _, _, _, nl hl0, T.c_Moment, T.n_Moment_own_backs, _, rfl, fun p hp => ?_⟩⟩
  exact q p _ ((exn hl0).trans (exn hp)) (Evl.fresh_back (exn hl0) hp) ⟨l, hl0, upd_same, exn hp _ _ upd_same⟩
theorem Mom.keep' {K : PySem.W.Frag} {H H' : Hp} {M KL : Addr} {t : MSt} (k : ∀ b o, H b = some o → H' b = some o) (h : Mom K H M KL t) : Mom K H' M KL t := by
  obtain ⟨⟨dM, hM⟩, hK, hl⟩ := h
  exact ⟨⟨dM, k _ _ hM⟩, k _ _ hK, hl⟩
theorem Mom.ex {K : PySem.W.Frag} {H H' : Hp} {M KL : Addr} {t : MSt} (e : Ex H H') (h : Mom K H M KL t) : Mom K H' M KL t := h.keep' fun b o q => e b o q
theorem Mom.tup {K : PySem.W.Frag} {H : Hp} {M KL a : Addr} {t : MSt} {xs : List V} (h : Mom K H M KL t) (ha : H a = some (.tup xs)) : ¬ MR M KL a := by
  obtain ⟨⟨dM, hM⟩, hK, hl⟩ := h
  rintro (rfl | rfl)
  · rw [hM] at ha; cases ha
  · rw [hK] at ha; cases ha
theorem But.at_none {R : Addr → Prop} {H H' : Hp} (h : But R H H') (hR : ∀ b, R b → H b = none) : Ex H H' := fun b o q => h b o (fun z => by rw [hR b z] at q; cases q) q
theorem But.ex_of {M KL : Addr} {H H1 H2 : Hp} (e : Ex H H1) (nM : H M = none) (nK : H KL = none) (h : But (MR M KL) H1 H2) : Ex H H2 := fun b o q => h b o (fun z => by
  rcases z with z | z
  · rw [z, nM] at q; cases q
  · rw [z, nK] at q; cases q) (e b o q)
def sp_moment_of (K : PySem.W.Frag) : Sp := sp2 fun x y H Q _ => ∃ (a : Addr) (b n s i : Int), x = .ref a ∧ y = .int i ∧ H a = some (.tup ((planT b n s).map V.int)) ∧ PB n s ∧ 0 ≤ i ∧ i ≤ opsN n s ∧
  ∀ M KL H', Ex H H' → Mom K H' M KL (momAt n s b i ⟨0, [0], 0, 0⟩) → Q (.ref M) H'
theorem sc_moment_of : FnScope ["plan", "number", "found", "part", "left", "split", "behind", "ahead", "kept"] ["plan", "number"] (defScope s_moment_of) := ⟨rfl, rfl, rfl, by decide +kernel, rfl, by decide +kernel, by decide +kernel⟩
theorem ok_moment_of (T : Txt P w K mg base) : FnOk P w K mg base (L2.CX P w) 3 T.a_moment_of T.fd_moment_of ["plan", "number"] (sp_moment_of K) := by
  refine FunD.ok T.F_moment_of sc_moment_of (fun vs H Q E h => ar2 h) (fun cdv A fr s H vs Q E hr h => ⟨_, PSs.nox (Evl.pss_cut (ps_par3 (i := 2) (j := 3) (l := 4) (by rfl) sc_moment_of.nd rfl rfl rfl (by decide) (by decide) (by decide) rfl rfl rfl (pa_cons (pe_make0 T.k_Moment (ok_Moment___init__ T) hr (by rfl) T.g_Moment T.b_Moment___init__ .nil passL) (pa_cons (pv 0) (pa_cons (pv 1) pa_nil))) (by rfl)) (Evl.pss_cut (ps_while PassesOwn.never (PW.pt (pw_and (pt_cmpR op_gt (pv 4) pe_int (nomark _)) (pw_and (pt_cmpR op_lt (pv 4) (pe_ix ix_tupT (pv 3) pe_int (fun _ _ => rfl)) (nomark _)) (pw_and (pt_cmpR op_gt (pe_ix ix_tupT (pv 3) pe_int (fun _ _ => rfl)) pe_int (nomark _)) (pw_and1 (pt_cmpR op_gt (pe_ix ix_tupT (pv 3) pe_int (fun _ _ => rfl)) pe_int (nomark _))))))) (Evl.pss_cut (ps_asg (pe_call (ok_parts_of T) hr (by rfl) T.g_parts_of T.F_parts_of.kp T.b_parts_of .nil passL (pa_cons (pv 3) pa_nil)) (pg_tupT (n := 3) rfl (pgs_cons (pg_name (i := 5) sc_moment_of.nd rfl (.inl rfl)) (pgs_cons (pg_name (i := 6) sc_moment_of.nd rfl (.inl rfl)) (pgs_cons (pg_name (i := 7) sc_moment_of.nd rfl (.inl rfl)) pgs_nil))))) (Evl.pss_cut (ps_set (i := 8) sc_moment_of.nd rfl (.inl rfl) (pe_callTy call_intB (by rfl) T.n_int (by decide +kernel) (pa_cons (pe_cmpR op_gt (pe_ix ix_tupT (pv 6) pe_int (fun _ _ => rfl)) pe_int (nomark _)) pa_nil))) (Evl.pss_cut (ps_expr (pe_meth (pv 2) T.c_Moment T.m_Moment_go (ok_Moment_go T) (hr.mono (by decide)) T.b_Moment_go .nil passL (pa_cons (pe_ix ix_tupT (pv 3) pe_int (fun _ _ => rfl)) (pa_cons (pv 5) pa_nil)))) (Evl.pss_cut (ps_aug (i := 4) sc_moment_of.nd rfl (.inl rfl) pe_int ip_sub) (Evl.pss_cut (ps_if (PW.pt (pw_and (pt_cmpR op_gt (pv 4) pe_int (nomark _)) (pw_and1 (pt_cmpR op_eq (pv 8) pe_int (nomark _))))) (pss_cons (ps_expr (pe_meth (pv 2) T.c_Moment T.m_Moment_keep (ok_Moment_keep T) (hr.mono (by decide)) T.b_Moment_keep .nil passL (pa_cons (pe_op op_add (pe_ix ix_tupT (pv 3) pe_int (fun _ _ => rfl)) (pv 5)) pa_nil))) (pss_one (ps_aug (i := 4) sc_moment_of.nd rfl (.inl rfl) pe_int ip_sub))) pss_nil) (pss_one (ps_if (pt_cmpR op_le (pv 4) (pe_ix ix_tupT (pv 6) pe_int (fun _ _ => rfl)) (nomark _)) (pss_one (ps_set (i := 3) sc_moment_of.nd rfl (.inl rfl) (pv 6))) (pss_cons (ps_expr (pe_meth (pv 2) T.c_Moment T.m_Moment_pass_part (ok_Moment_pass_part T) (hr.mono (by decide)) T.b_Moment_pass_part .nil passL (pa_cons (pv 6) pa_nil))) (pss_cons (ps_aug (i := 4) sc_moment_of.nd rfl (.inl rfl) (pe_ix ix_tupT (pv 6) pe_int (fun _ _ => rfl)) ip_sub) (pss_cons (ps_if (pt_cmpR op_eq (pv 8) pe_int (nomark _)) (pss_cons (ps_expr (pe_meth0 (pv 2) T.c_Moment T.m_Moment_free_last (ok_Moment_free_last T) (hr.mono (by decide)) T.b_Moment_free_last .nil passL)) (pss_one (ps_aug (i := 4) sc_moment_of.nd rfl (.inl rfl) pe_int ip_sub))) pss_nil) (pss_one (ps_if (pt_cmpR op_gt (pv 4) pe_int (nomark _)) (pss_cons (ps_expr (pe_meth (pv 2) T.c_Moment T.m_Moment_take (ok_Moment_take T) (hr.mono (by decide)) T.b_Moment_take .nil passL (pa_cons (pe_ix ix_tupT (pv 3) pe_int (fun _ _ => rfl)) pa_nil))) (pss_cons (ps_aug (i := 4) sc_moment_of.nd rfl (.inl rfl) pe_int ip_sub) (pss_one (ps_set (i := 3) sc_moment_of.nd rfl (.inl rfl) (pv 7))))) pss_nil))))))))))))) (pss_cons (ps_if (pt_cmpR op_eq (pv 4) (pe_ix ix_tupT (pv 3) pe_int (fun _ _ => rfl)) (nomark _)) (pss_one (ps_expr (pe_meth (pv 2) T.c_Moment T.m_Moment_pass_part (ok_Moment_pass_part T) (hr.mono (by decide)) T.b_Moment_pass_part .nil passL (pa_cons (pv 3) pa_nil)))) (pss_one (ps_if (pt_cmpR op_gt (pv 4) pe_int (nomark _)) (pss_one (ps_expr (pe_meth (pv 2) T.c_Moment T.m_Moment_pass_row (ok_Moment_pass_row T) hr T.b_Moment_pass_row .nil passL (pa_cons (pv 3) (pa_cons (pv 4) pa_nil))))) pss_nil))) (pss_one (ps_ret (pv 2)))))), ?_⟩)
  obtain ⟨_, _, rfl, a, b, n, s, i, rfl, rfl, ha, hb, i0, i1, q⟩ := h
  refine Evl.q_cut (M := fun σ' H' => ∃ M KL, σ' = [some (.ref a), some (.int i), some (.ref M), some (.ref a), some (.int i), none, none, none, none] ∧ Ex H H' ∧ H M = none ∧ H KL = none ∧ Mom K H' M KL ⟨0, [0], 0, 0⟩) ?_ ?_
  · unfold sp_Moment___init__
    walk_at "rd"
    intro M dM hM hdM ne H2 KL b2 hK m2
    have e0 : Ex H (upd (upd H dM (.own M)) M (.ins (He.ga K "Moment") dM [])) := (exn hdM).trans (exn (by rw [upd_ne (Ne.symm ne)]; exact hM))
    exact ⟨fun c o h => b2 c o (fun z => by rw [z, hM] at h; cases h) (e0 _ _ h), hM, KL, Evl.fresh_back e0 hK, m2⟩
  rintro σ H1 ⟨M, KL, rfl, e1, nM, nK, m1⟩
  have hM := med_200
  refine Evl.q_cut (M := fun σ' H' => ∃ (l : Addr) (b' n' s' i' : Int) (t' : MSt) (x y z u : Option V), σ' = [some (.ref a), some (.int i), some (.ref M), some (.ref l), some (.int i'), x, y, z, u] ∧ Ex H H' ∧ H' l = some (.tup ((planT b' n' s').map V.int)) ∧ PB n' s' ∧ 0 ≤ i' ∧ i' ≤ opsN n' s' ∧ Mom K H' M KL t' ∧ t'.kept.length + s'.toNat ≤ 500 ∧ momAt n' s' b' i' t' = momAt n s b i ⟨0, [0], 0, 0⟩ ∧ (i' ≤ 0 ∨ i' = opsN n' s' ∨ n' < 2 ∨ s' < 2)) ?_ ?_
  · walk_at "rd"
    refine ⟨fun m σ H' => Ex H H' ∧ ∃ (l : Addr) (b' n' s' i' : Int) (t' : MSt) (x y z u : Option V), σ = [some (.ref a), some (.int i), some (.ref M), some (.ref l), some (.int i'), x, y, z, u] ∧ H' l = some (.tup ((planT b' n' s').map V.int)) ∧ PB n' s' ∧ 0 ≤ i' ∧ i' ≤ opsN n' s' ∧ Mom K H' M KL t' ∧ t'.kept.length + s'.toNat ≤ 500 ∧ momAt n' s' b' i' t' = momAt n s b i ⟨0, [0], 0, 0⟩ ∧ m = 2 * n'.toNat + (if 0 < i' then 1 else 0),
      ⟨_, e1, a, b, n, s, i, ⟨0, [0], 0, 0⟩, _, _, _, _, rfl, e1 _ _ ha, hb, i0, i1, m1, ?_, rfl, rfl⟩, ?_⟩
    · have := hb.2.2.2.1
      show 1 + s.toNat ≤ 500
      omega
    rintro m σ H2 ⟨e2, l, b', n', s', i', t', x, y, z, u, rfl, hl, hb', j0, j1, m2, kl, em, rfl⟩
    walk_at "rd"
    have fin : ∀ (h : i' ≤ 0 ∨ i' = opsN n' s' ∨ n' < 2 ∨ s' < 2), Ex H H2 ∧ ∃ b'_1 n'_1 s'_1, H2 l = some (.tup ((planT b'_1 n'_1 s'_1).map V.int)) ∧ PB n'_1 s'_1 ∧ 0 ≤ i' ∧ i' ≤ opsN n'_1 s'_1 ∧ ∃ t'_1, Mom K H2 M KL t'_1 ∧ t'_1.kept.length + s'_1.toNat ≤ 500 ∧ momAt n'_1 s'_1 b'_1 i' t'_1 = momAt n s b i ⟨0, [0], 0, 0⟩ ∧ (i' ≤ 0 ∨ i' = opsN n'_1 s'_1 ∨ n'_1 < 2 ∨ s'_1 < 2) := fun h =>
      ⟨e2, b', n', s', hl, hb', j0, j1, t', m2, kl, em, h⟩
    refine ite2 (fun c1 => ⟨_, hl, _, atI_nat (j := 5) rfl, _, rfl, ite2 (fun c2 => ⟨_, hl, _, atI_1, _, rfl, ite2 (fun c3 => ⟨_, hl, _, atI_2, _, rfl, ite2 (fun c4 => ?_) fun c4 => fin (by omega)⟩) fun c3 => fin (by omega)⟩) fun c2 => fin (by omega)⟩) fun c1 => fin (by omega)
    clear fin
    have hn : 2 ≤ n' := by omega
    have hs : 2 ≤ s' := by omega
    obtain ⟨l1, l2, l3⟩ := loz_range hn hs
    have pr := hb'.rest hn hs
    have pa := hb'.ahead hn hs
    have ek := opsN_kp hn hs
    have k01 := kp_01 n' s'
    have og := opsN_ge (n' - hiz n' s') (s' - 1) (by omega) (by omega)
    have oh := opsN_ge (hiz n' s') s' (by omega) (by omega)
    refine ⟨fun σ' H'' => Ex H H'' ∧ ∃ (l : Addr) (b2 n2 s2 i2 : Int) (t2 : MSt) (x y z u : Option V), σ' = [some (.ref a), some (.int i), some (.ref M), some (.ref l), some (.int i2), x, y, z, u] ∧ H'' l = some (.tup ((planT b2 n2 s2).map V.int)) ∧ PB n2 s2 ∧ 0 ≤ i2 ∧ i2 ≤ opsN n2 s2 ∧ Mom K H'' M KL t2 ∧ t2.kept.length + s2.toNat ≤ 500 ∧ momAt n2 s2 b2 i2 t2 = momAt n s b i ⟨0, [0], 0, 0⟩ ∧ 2 * n2.toNat + (if 0 < i2 then 1 else 0) < 2 * n'.toNat + (if 0 < i' then 1 else 0),
      fun σ' H'' ⟨e, l, b2, n2, s2, i2, t2, x, y, z, u, e1, e2, e3, e4, e5, e6, e7, e8, e9⟩ => ⟨_, e9, e, l, b2, n2, s2, i2, t2, x, y, z, u, e1, e2, e3, e4, e5, e6, e7, e8, rfl⟩, ?_⟩
    refine Evl.q_cut (M := fun σ' H' => ∃ c d, σ' = [some (.ref a), some (.int i), some (.ref M), some (.ref l), some (.int i'), some (.int (hiz n' s')), some (.ref c), some (.ref d), u] ∧ Ex H2 H' ∧ H' c = some (.tup ((planT (b' + hiz n' s') (n' - hiz n' s') (s' - 1)).map V.int)) ∧ H' d = some (.tup ((planT b' (hiz n' s') s').map V.int))) ?_ ?_
    · unfold sp_parts_of
      walk_at "rd"
      refine ⟨b', n', s', hl, hb', hn, hs, fun p c d H2 hp e2 h1 h2 h3 => ?_⟩
      simp only [h1]
      walk_at "rd"
      exact ⟨e2, h2, h3⟩
    rintro σ H3 ⟨c, d, rfl, e3, hc, hd⟩
    refine Evl.q_cut (M := fun σ' H' => σ' = [some (.ref a), some (.int i), some (.ref M), some (.ref l), some (.int i'), some (.int (hiz n' s')), some (.ref c), some (.ref d), some (.int (kp n' s'))] ∧ H3 = H') ?_ ?_
    · walk_at "rd"
      refine ⟨_, hc, _, atI_1, ?_⟩
      walk_at "rd"
      unfold kp
      exact rfl
    rintro σ _ ⟨rfl, rfl⟩
    have m3 := m2.ex e3
    have hl3 := e3 _ _ hl
    refine Evl.q_cut (M := fun σ' H' => σ' = [some (.ref a), some (.int i), some (.ref M), some (.ref l), some (.int i'), some (.int (hiz n' s')), some (.ref c), some (.ref d), some (.int (kp n' s'))] ∧ But (MR M KL) H3 H' ∧ Mom K H' M KL (t'.go b' (hiz n' s'))) ?_ ?_
    · unfold sp_Moment_go
      walk_at "rd"
      obtain ⟨dM, hM3⟩ := m3.1
      exact ⟨_, _, hM3, rfl, _, hl3, _, atI_0, KL, _, _, rfl, m3, fun H' b m => ⟨b, m⟩⟩
    rintro σ H4 ⟨rfl, b4, m4⟩
    have hl4 := b4 _ _ (m3.tup hl3) hl3
    refine Evl.q_cut (M := fun σ' H' => σ' = [some (.ref a), some (.int i), some (.ref M), some (.ref l), some (.int (i' - 1)), some (.int (hiz n' s')), some (.ref c), some (.ref d), some (.int (kp n' s'))] ∧ H4 = H') ?_ ?_
    · walk_at "rd"
    rintro σ _ ⟨rfl, rfl⟩
    refine Evl.q_cut (M := fun σ' H' => σ' = [some (.ref a), some (.int i), some (.ref M), some (.ref l), some (.int (i' - 1 - (if 1 < i' then kp n' s' else 0))), some (.int (hiz n' s')), some (.ref c), some (.ref d), some (.int (kp n' s'))] ∧ But (MR M KL) H3 H' ∧ Mom K H' M KL (if 1 < i' ∧ kp n' s' = 1 then (t'.go b' (hiz n' s')).keep (b' + hiz n' s') else t'.go b' (hiz n' s'))) ?_ ?_
    · unfold sp_Moment_keep
      walk_at "rd"
      obtain ⟨dM, hM4⟩ := m4.1
      have ln : (t'.go b' (hiz n' s')).kept.length ≤ 999 := by show t'.kept.length ≤ 999; omega
      refine ite2 (fun h1 => ite2 (fun h2 => ⟨_, _, hM4, rfl, _, hl4, _, atI_0, _, rfl, KL, _, m4, ln, fun H' b m => ⟨?_, b4.trans b, ?_⟩⟩) fun h2 => ⟨?_, b4, ?_⟩) fun h1 => ⟨?_, b4, ?_⟩
      · rw [if_pos (by omega), h2]
      · rw [if_pos ⟨by omega, h2⟩]; exact m
      · rw [if_pos (by omega)]; omega
      · rw [if_neg (by omega)]; exact m4
      · rw [if_neg (by omega)]; omega
      · rw [if_neg (by omega)]; exact m4
    rintro σ H5 ⟨rfl, b5, m5⟩
    have hc5 := b5 _ _ (m3.tup hc) hc
    have hd5 := b5 _ _ (m3.tup hd) hd
    have hl5 := b5 _ _ (m3.tup hl3) hl3
    have e35 : ∀ {H6 : Hp}, But (MR M KL) H5 H6 → Ex H H6 := fun h => But.ex_of (e2.trans e3) nM nK (b5.trans h)
    unfold sp_Moment_pass_part sp_Moment_free_last sp_Moment_take
    walk_at "rd"
    refine ⟨_, hc5, _, atI_nat (j := 5) rfl, _, rfl, ite2 (fun hj => ?_) fun hj => ?_⟩
    · refine ⟨e35 But.refl, b' + hiz n' s', n' - hiz n' s', s' - 1, hc5, pr, by split <;> omega, hj, _, m5, ?_, ?_, ?_⟩
      · split
        · show (t'.kept ++ [b' + hiz n' s']).length + _ ≤ 500
          rw [List.length_append]
          show t'.kept.length + 1 + _ ≤ 500
          omega
        · show t'.kept.length + _ ≤ 500
          omega
      · rw [← em, momAt_in (by omega) (by omega) hn hs rfl hj]
      · rw [if_pos c1]
        generalize (i' - 1 - if 1 < i' then kp n' s' else 0) = j
        split <;> omega
    have h1 : 1 < i' := Classical.byContradiction fun h => by
      rw [if_neg h] at hj
      omega
    rw [if_pos h1] at hj ⊢
    obtain ⟨dM5, hM5⟩ := m5.1
    refine ⟨_, _, hM5, rfl, KL, _, m5, b' + hiz n' s', n' - hiz n' s', s' - 1, hc5, pr, fun H6 b6 m6 => ⟨_, b6 _ _ (m5.tup hc5) hc5, _, atI_nat (j := 5) rfl, _, rfl, ?_⟩⟩
    have hd6 := b6 _ _ (m5.tup hd5) hd5
    have hl6 := b6 _ _ (m5.tup hl5) hl5
    obtain ⟨dM6, hM6⟩ := m6.1
    rcases k01 with hk | hk
    · rw [if_neg (by omega)] at m6
      have m7 : Mom K H6 M KL ((t'.go b' (hiz n' s')).passP (b' + hiz n' s') (n' - hiz n' s') (s' - 1)) := m6
      have b7 := b6
      have hd7 := hd6
      have hl7 := hl6
      have hM7 := hM6
      refine iteNo (by omega) ?_
      refine ite2 (fun h4 => ⟨_, _, hM7, rfl, _, hl7, _, atI_0, KL, _, _, rfl, m7, fun H8 b8 m8 => ?_⟩) fun h4 => ?_
      · refine ⟨e35 (b7.trans b8), b', hiz n' s', s', b8 _ _ (m7.tup hd7) hd7, pa, by omega, by omega, _, m8, by show t'.kept.length + s'.toNat ≤ 500; exact kl, ?_, ?_⟩
        · rw [← em, momAt_on (by omega) (by omega) hn hs (by rw [if_pos h1]; omega) rfl (by omega)]
          congr 1
          omega
        · rw [if_pos c1]
          split <;> omega
      · refine ⟨e35 b7, b', n', s', hl7, hb', by omega, by omega, _, m7, by show t'.kept.length + s'.toNat ≤ 500; exact kl, ?_, ?_⟩
        · refine (momAt_0 (by omega)).trans ?_
          rw [← em]
          exact (momAt_end (by omega) (by omega) hn hs (by rw [if_pos h1]; omega) (by omega)).symm
        · rw [if_pos c1, if_neg (by omega)]
          omega
    · rw [if_pos ⟨h1, hk⟩] at m6
      refine iteY hk ⟨_, _, hM6, rfl, KL, (t'.go b' (hiz n' s')).passP (b' + hiz n' s') (n' - hiz n' s') (s' - 1), b' + hiz n' s', m6, fun H7 b7' m7 => ?_⟩
      have b7 := b6.trans b7'
      have hd7 := b7 _ _ (m5.tup hd5) hd5
      have hl7 := b7 _ _ (m5.tup hl5) hl5
      obtain ⟨dM7, hM7⟩ := m7.1
      refine ite2 (fun h4 => ⟨_, _, hM7, rfl, _, hl7, _, atI_0, KL, _, _, rfl, m7, fun H8 b8 m8 => ?_⟩) fun h4 => ?_
      · refine ⟨e35 (b7.trans b8), b', hiz n' s', s', b8 _ _ (m7.tup hd7) hd7, pa, by omega, by omega, _, m8, by show t'.kept.length + s'.toNat ≤ 500; exact kl, ?_, ?_⟩
        · rw [← em, momAt_on (by omega) (by omega) hn hs (by rw [if_pos h1]; omega) rfl (by omega)]
          congr 1
          omega
        · rw [if_pos c1]
          split <;> omega
      · refine ⟨e35 b7, b', n', s', hl7, hb', by omega, by omega, _, m7, by show t'.kept.length + s'.toNat ≤ 500; exact kl, ?_, ?_⟩
        · refine (momAt_0 (by omega)).trans ?_
          rw [← em]
          exact (momAt_end (by omega) (by omega) hn hs (by rw [if_pos h1]; omega) (by omega)).symm
        · rw [if_pos c1, if_neg (by omega)]
          omega
  rintro σ H2 ⟨l, b', n', s', i', t', x, y, z, u, rfl, e2, hl, hb', j0, j1, m2, kl, em, ex⟩
  unfold sp_Moment_pass_part sp_Moment_pass_row
  walk_at "rd"
  have hp := opsN_ge n' s' hb'.1 hb'.2.2.1
  obtain ⟨dM, hM2⟩ := m2.1
  refine ⟨_, hl, _, atI_nat (j := 5) rfl, rfl, ?_⟩
  by_cases h : i' = opsN n' s'
  · refine iteY (by rw [h]) ⟨_, _, hM2, rfl, KL, _, m2, b', n', s', hl, hb', fun H' b3 m3 => q M KL H' (But.ex_of e2 nM nK b3) ?_⟩
    rw [← em, momAt_all (by have := hb'.1; omega) h]
    exact m3
  · refine iteNo (fun z => h (V.int.inj z)) (ite2 (fun h0 => ⟨_, _, hM2, rfl, KL, _, m2, b', n', s', hl, hb', h0, ?_, fun H' b3 m3 => q M KL H' (But.ex_of e2 nM nK b3) ?_⟩) fun h0 => q M KL H2 e2 ?_)
    · have := hb'.2.1
      omega
    · rw [← em, momAt_row h0 h (by omega)]
      exact m3
    · rw [← em, momAt_0 (by omega)]
      exact m2
def mo0 : MSt := ⟨0, [0], 0, 0⟩
abbrev momT (n s i : Int) : MSt := momAt n s 0 i mo0
def sp_moment (K : PySem.W.Frag) : Sp := sp3 fun x y z H Q _ => ∃ (n s i : Int), x = .int n ∧ y = .int s ∧ z = .int i ∧ PB n s ∧ 0 ≤ i ∧ i ≤ opsN n s ∧ ∀ p H', Ex H H' → H p = none → MTold H H' p (momT n s i) → Q (.ref p) H'
theorem sc_moment : FnScope ["length", "slots", "number", "plan"] ["length", "slots", "number"] (defScope s_moment) := ⟨rfl, rfl, rfl, by decide +kernel, rfl, by decide +kernel, by decide +kernel⟩
theorem ok_moment (T : Txt P w K mg base) : FnOk P w K mg base (L2.CX P w) 6 T.a_moment T.fd_moment ["length", "slots", "number"] (sp_moment K) := by
  refine FunD.ok T.F_moment sc_moment (fun vs H Q E h => ar3 h) (fun cdv A fr s H vs Q E hr h => ⟨_, PSs.nox (pss_cons (ps_set (i := 3) sc_moment.nd rfl (.inl rfl) (pe_call (ok_whole_plan T) hr (by rfl) T.g_whole_plan T.F_whole_plan.kp T.b_whole_plan .nil passL (pa_cons (pv 0) (pa_cons (pv 1) pa_nil)))) (pss_cons (ps_if (pt_not (pt_val (pe_call (ok_is_whole T) (hr.mono (by decide)) (by rfl) T.g_is_whole T.F_is_whole.kp T.b_is_whole .nil passL (pa_cons (pv 2) (pa_cons pe_int (pa_cons (pe_ix ix_tupT (pv 3) pe_int (fun _ _ => rfl)) pa_nil)))))) (pss_one ps_never) pss_nil) (pss_one (ps_ret (pe_meth0 (pe_call (ok_moment_of T) (hr.mono (by decide)) (by rfl) T.g_moment_of T.F_moment_of.kp T.b_moment_of .nil passL (pa_cons (pv 3) (pa_cons (pv 2) pa_nil))) T.c_Moment T.m_Moment_told (ok_Moment_told T) (hr.mono (by decide)) T.b_Moment_told .nil passL))))), ?_⟩)
  obtain ⟨_, _, _, rfl, n, s, i, rfl, rfl, rfl, hb, i0, i1, q⟩ := h
  unfold sp_whole_plan sp_is_whole sp_moment_of sp_Moment_told
  walk_at "rd"
  refine ⟨hb, fun p H2 hp e2 h2 => ?_⟩
  simp only [h2, planT]
  walk_at "rd"
  refine ⟨some i, rfl, ?_⟩
  have e : whole (some i) 0 (opsN n s) = true := by unfold whole; exact decide_eq_true ⟨i0, i1⟩
  rw [e]
  refine iteTF ⟨hb, i0, i1, fun M KL H3 e3 m3 => ?_⟩
  obtain ⟨dM, hM⟩ := m3.1
  exact ⟨_, _, hM, rfl, KL, _, m3, fun p H4 e4 hp ⟨p2, n2, h4, h5⟩ => q p H4 ((e2.trans e3).trans e4) (Evl.fresh_back (e2.trans e3) hp) ⟨p2, Evl.fresh_back (e2.trans e3) n2, h4, h5⟩⟩
/-! ### draws of a bag -/
def Bag (H : Hp) (r : Addr) : Prop := ∃ a b c : Int, H r = some (.lst [.int a, .int b, .int c]) ∧ 0 ≤ a
theorem Bag.keep {H H' : Hp} {r : Addr} (h : Bag H r) (k : ∀ o, H r = some o → H' r = some o) : Bag H' r := by
  obtain ⟨a, b, c, e, q⟩ := h
  exact ⟨a, b, c, k _ e, q⟩
theorem Bag.ex {H H' : Hp} {r : Addr} (h : Bag H r) (e : Ex H H') : Bag H' r := h.keep fun o q => e r o q
theorem Bag.ne {H : Hp} {r p : Addr} (h : Bag H r) (hp : H p = none) : p ≠ r := by
  obtain ⟨a, b, c, e, q⟩ := h
  exact (ne_of_none e hp).symm
theorem bag_none {H H' : Hp} {r p : Addr} (o : Mo r H H') (h : Bag H' r) (hp : H' p = none) : H p = none := by
  cases q : H p with
  | none => rfl
  | some u => rw [o p u (h.ne hp) q] at hp; cases hp
def sp_L_bag (K : PySem.W.Frag) : Sp := sp1 fun x H Q _ => ∃ c : Int, x = .int c ∧ ∀ r H', H r = none → Ex H H' → Bag H' r → Q (.ref r) H'
theorem sc_L_bag : FnScope ["_law_cell"] ["_law_cell"] (defScope s_L_bag) := ⟨rfl, rfl, rfl, by decide +kernel, rfl, by decide +kernel, by decide +kernel⟩
theorem ok_L_bag (T : Txt P w K mg base) : FnOk P w K mg base (L2.CX P w) 1 T.a_L_bag T.fd_L_bag ["_law_cell"] (sp_L_bag K) := by
  refine FunD.ok T.F_L_bag sc_L_bag (fun vs H Q E h => ar1 h) (fun cdv A fr s H vs Q E hr h => ⟨_, PSs.nox (pss_one (ps_ret (pe_lst (pa_cons (pe_callB (call_max2 rfl) (by rfl) T.n_max (by decide +kernel) (pa_cons pe_int (pa_cons (pe_op op_sub (pv 0) (pe_op op_powC pe_int pe_int)) pa_nil))) (pa_cons (pv 0) (pa_cons pe_int pa_nil)))))), ?_⟩)
  obtain ⟨_, rfl, c, rfl, q⟩ := h
  walk_at "rd"
  exact fun p hp => q p _ hp (exn hp) ⟨_, _, _, upd_same, by split <;> omega⟩
def sp_L_pick (K : PySem.W.Frag) : Sp := sp2 fun x y H Q _ => ∃ (r : Addr) (n : Int), x = .ref r ∧ y = .int n ∧ Bag H r ∧ 1 ≤ n ∧ n ≤ 10 ^ 100 ∧ ∀ z H', 0 ≤ z → z < n → Mo r H H' → Bag H' r → Q (.int z) H'
theorem sc_L_pick : FnScope ["_law_bag_here", "_law_many", "_law_told", "_law_seed", "_law_turn", "_law_first", "_law_second", "_law_drawn"] ["_law_bag_here", "_law_many"] (defScope s_L_pick) := ⟨rfl, rfl, rfl, by decide +kernel, rfl, by decide +kernel, by decide +kernel⟩
theorem ok_L_pick (T : Txt P w K mg base) : FnOk P w K mg base (L2.CX P w) 1 T.a_L_pick T.fd_L_pick ["_law_bag_here", "_law_many"] (sp_L_pick K) := by
  refine FunD.ok T.F_L_pick sc_L_pick (fun vs H Q E h => ar2 h) (fun cdv A fr s H vs Q E hr h => ⟨_, PSs.nox (pss_cons (ps_asg (pe_op op_add (pe_ix ix_listT (pv 0) pe_int (fun _ _ => rfl)) pe_int) (pg_sub (pv 0) pe_int set_list)) (pss_cons (ps_if (pt_cmpR op_gt (pe_ix ix_listT (pv 0) pe_int (fun _ _ => rfl)) pe_int (nomark _)) (pss_cons (ps_set (i := 2) sc_L_pick.nd rfl (.inl rfl) (pe_op op_mod (pe_callTy call_intI (by rfl) T.n_int (by decide +kernel) (pa_cons (pe_ix ix_listT (pv 0) pe_int (fun _ _ => rfl)) pa_nil)) (pv 1))) (pss_cons (ps_asg (pe_op op_divB (pe_callTy call_intI (by rfl) T.n_int (by decide +kernel) (pa_cons (pe_ix ix_listT (pv 0) pe_int (fun _ _ => rfl)) pa_nil)) (pv 1)) (pg_sub (pv 0) pe_int set_list)) (pss_one (ps_ret (pv 2))))) pss_nil) (pss_cons (ps_par (i := 3) (j := 4) (by rfl) sc_L_pick.nd rfl rfl (by decide) rfl rfl (pa_cons (pe_callTy call_intI (by rfl) T.n_int (by decide +kernel) (pa_cons (pe_ix ix_listT (pv 0) pe_int (fun _ _ => rfl)) pa_nil)) (pa_cons (pe_callTy call_intI (by rfl) T.n_int (by decide +kernel) (pa_cons (pe_ix ix_listT (pv 0) pe_int (fun _ _ => rfl)) pa_nil)) pa_nil)) (by rfl)) (pss_cons (ps_set (i := 5) sc_L_pick.nd rfl (.inl rfl) (pe_op op_mod (pe_callTy call_intI (by rfl) T.n_int (by decide +kernel) (pa_cons (pe_op op_add (pe_op op_add (pe_op op_mul (pe_op op_mod (pv 3) pe_int) pe_int) (pe_op op_mul (pv 4) pe_int)) pe_int) pa_nil)) pe_int)) (pss_cons (ps_set (i := 6) sc_L_pick.nd rfl (.inl rfl) (pe_op op_mod (pe_callTy call_intI (by rfl) T.n_int (by decide +kernel) (pa_cons (pe_op op_add (pe_op op_mul (pv 5) (pv 5)) (pe_op op_mul (pv 4) pe_int)) pa_nil)) pe_int)) (pss_cons (ps_set (i := 7) sc_L_pick.nd rfl (.inl rfl) (pe_op op_divB (pe_callTy call_intI (by rfl) T.n_int (by decide +kernel) (pa_cons (pe_op op_add (pe_op op_mul (pv 5) pe_int) (pv 6)) pa_nil)) pe_int)) (pss_cons (ps_if (pt_cmpR op_gt (pv 1) (pe_op op_powC pe_int pe_int) (nomark _)) (pss_one (ps_set (i := 7) sc_L_pick.nd rfl (.inl rfl) (pe_op op_add (pe_op op_powB (pv 7) pe_int) (pv 6)))) pss_nil) (pss_one (ps_ret (pe_op op_mod (pe_callTy call_intI (by rfl) T.n_int (by decide +kernel) (pa_cons (pv 7) pa_nil)) (pv 1))))))))))), ?_⟩)
  obtain ⟨_, _, rfl, r, n, rfl, rfl, ⟨a, b, c, hr0, ha⟩, hn, hn2, q⟩ := h
  walk_at "rd"
  simp only [hr0]
  walk_at "rd"
  have hB := big_200
  refine ite2 (fun h => ?_) (fun h => ?_)
  · refine ⟨by omega, by unfold CDivB; omega, q _ _ (Int.emod_nonneg _ (by omega)) (Int.emod_lt_of_pos _ (by omega)) (fun x o nx hx => by simp only [upd_ne nx]; exact hx) ⟨_, _, _, upd_same, Int.ediv_nonneg ha (by omega)⟩⟩
  · have f1 : 0 ≤ (b % 2147483629 * 48271 + (c + 1) * 69621 + 12345) % 2147483647 ∧ (b % 2147483629 * 48271 + (c + 1) * 69621 + 12345) % 2147483647 < 2147483647 := ⟨by omega, by omega⟩
    generalize (b % 2147483629 * 48271 + (c + 1) * 69621 + 12345) % 2147483647 = f at *
    have s1 : 0 ≤ (f * f + (c + 1) * 40692) % 2147483587 ∧ (f * f + (c + 1) * 40692) % 2147483587 < 2147483587 := ⟨Int.emod_nonneg _ (by decide), Int.emod_lt_of_pos _ (by decide)⟩
    refine ⟨by unfold CMul; omega, by unfold CMul; omega, by unfold CMul; omega, by unfold CMul; omega, by unfold CMul; omega, ?_⟩
    generalize (f * f + (c + 1) * 40692) % 2147483587 = s at *
    refine ⟨by unfold CDivB; omega, ?_⟩
    have fin : ∀ z : Int, Q (.int (z % n)) (upd H r (.lst [.int a, .int b, .int (c + 1)])) := fun z =>
      q _ _ (Int.emod_nonneg _ (by omega)) (Int.emod_lt_of_pos _ (by omega)) (fun x o nx hx => by simp only [upd_ne nx]; exact hx) ⟨_, _, _, upd_same, ha⟩
    refine ite2 (fun h => ?_) (fun h => ?_)
    · exact ⟨by unfold CPowW; omega, by omega, fin _⟩
    · exact ⟨by omega, fin _⟩
def sp_L_reach (K : PySem.W.Frag) : Sp := sp2 fun a b H Q _ => ∃ (s r : Int), a = .int s ∧ b = .int r ∧ 0 ≤ s ∧ s ≤ 102 ∧ -1 ≤ r ∧ r ≤ 2 ^ 110 ∧ Q (.int (Rz s r)) H
theorem sc_L_reach : FnScope ["_law_slots", "_law_rounds_here", "_law_found", "_law_turn"] ["_law_slots", "_law_rounds_here"] (defScope s_L_reach) := ⟨rfl, rfl, rfl, by decide +kernel, rfl, by decide +kernel, by decide +kernel⟩
theorem ok_L_reach (T : Txt P w K mg base) : FnOk P w K mg base (L2.CX P w) 1 T.a_L_reach T.fd_L_reach ["_law_slots", "_law_rounds_here"] (sp_L_reach K) := by
  refine FunD.ok T.F_L_reach sc_L_reach (fun vs H Q E h => ar2 h) (fun cdv A fr s H vs Q E hr h => ⟨_, PSs.nox (pss_cons (ps_set (i := 2) sc_L_reach.nd rfl (.inl rfl) pe_int) (pss_cons (ps_for PassesOwn.never rfl (pi_range1 (by rfl) T.n_range (pa_cons (pv 0) pa_nil)) (pg_name (i := 3) sc_L_reach.nd rfl (.inl rfl)) (pss_one (ps_set (i := 2) sc_L_reach.nd rfl (.inl rfl) (pe_op op_divB (pe_op op_mulB (pv 2) (pe_op op_add (pe_op op_add (pv 1) (pv 3)) pe_int)) (pe_op op_add (pv 3) pe_int))))) (pss_one (ps_ret (pv 2))))), ?_⟩)
  obtain ⟨_, _, rfl, s, r, rfl, rfl, h1, h2, h3, h4, q⟩ := h
  walk_at "rd"
  refine for_rng1 (hi := s) s.toNat (fun R q => by walk_at "rd"; exact q) (by omega) (by omega)
    (fun i σ H' => H' = H ∧ ∃ x, σ = [some (.int s), some (.int r), some (.int (Rz i r)), x]) ⟨rfl, none, by rw [show ((0 : Nat) : Int) = 0 by rfl, Rz_zero]⟩ ?_ ?_
  · rintro σ H' ⟨rfl, x, rfl⟩
    walk_at "rd"
    rw [show ((s.toNat : Nat) : Int) = s by omega]
    exact q
  · rintro i σ H' hi ⟨rfl, x, rfl⟩
    walk_at "rd"
    have b1 : Rz (i : Int) r < BIG := Rz_big (by omega) (by omega)
    have b2 := Rz_nonneg (i : Int) r
    have hB := big_200
    refine ⟨⟨⟨by omega, by omega⟩, by omega, by omega⟩, ⟨by omega, by omega⟩, ?_⟩
    rw [show r + (i : Int) + 1 = r + ((i : Int) + 1) by omega, Rz_turn (by omega) h3]
    rfl
def sp_L_rounds (K : PySem.W.Frag) : Sp := sp2 fun a b H Q _ => ∃ (n s : Int), a = .int n ∧ b = .int s ∧ 1 ≤ n ∧ n ≤ 10 ^ 30 ∧ 1 ≤ s ∧ s ≤ 101 ∧ ∀ H', Ex H H' → Q (.int (rho n s)) H'
theorem sc_L_rounds : FnScope ["_law_length", "_law_slots", "_law_low", "_law_high", "_law_middle"] ["_law_length", "_law_slots"] (defScope s_L_rounds) := ⟨rfl, rfl, rfl, by decide +kernel, rfl, by decide +kernel, by decide +kernel⟩
theorem ok_L_rounds (T : Txt P w K mg base) : FnOk P w K mg base (L2.CX P w) 2 T.a_L_rounds T.fd_L_rounds ["_law_length", "_law_slots"] (sp_L_rounds K) := by
  refine FunD.ok T.F_L_rounds sc_L_rounds (fun vs H Q E h => ar2 h) (fun cdv A fr s H vs Q E hr h => ⟨_, PSs.nox (pss_cons (ps_asg (pe_tup (pa_cons (pe_un un_neg pe_int) (pa_cons pe_int pa_nil))) (pg_tupT (n := 2) rfl (pgs_cons (pg_name (i := 2) sc_L_rounds.nd rfl (.inl rfl)) (pgs_cons (pg_name (i := 3) sc_L_rounds.nd rfl (.inl rfl)) pgs_nil)))) (pss_cons (ps_while PassesOwn.never (pt_cmpR op_lt (pe_call (ok_L_reach T) hr (by rfl) T.g_L_reach T.F_L_reach.kp T.b_L_reach .nil passL (pa_cons (pv 1) (pa_cons (pv 3) pa_nil))) (pv 0) (nomark _)) (pss_one (ps_par (i := 2) (j := 3) (by rfl) sc_L_rounds.nd rfl rfl (by decide) rfl rfl (pa_cons (pv 3) (pa_cons (pe_op op_mulB pe_int (pv 3)) pa_nil)) (by rfl)))) (pss_cons (ps_while PassesOwn.never (pt_cmpR op_gt (pe_op op_sub (pv 3) (pv 2)) pe_int (nomark _)) (pss_cons (ps_set (i := 4) sc_L_rounds.nd rfl (.inl rfl) (pe_op op_divB (pe_op op_add (pv 2) (pv 3)) pe_int)) (pss_one (ps_if (pt_cmpR op_lt (pe_call (ok_L_reach T) hr (by rfl) T.g_L_reach T.F_L_reach.kp T.b_L_reach .nil passL (pa_cons (pv 1) (pa_cons (pv 4) pa_nil))) (pv 0) (nomark _)) (pss_one (ps_set (i := 2) sc_L_rounds.nd rfl (.inl rfl) (pv 4))) (pss_one (ps_set (i := 3) sc_L_rounds.nd rfl (.inl rfl) (pv 4))))))) (pss_one (ps_ret (pv 3)))))), ?_⟩)
  obtain ⟨_, _, rfl, n, s, rfl, rfl, h1, h2, h3, h4, q⟩ := h
  walk_at "rd"
  intro p hp
  refine ⟨fun m σ H' => Ex H H' ∧ ∃ low high x, σ = [some (.int n), some (.int s), some (.int low), some (.int high), x] ∧ -1 ≤ low ∧ low < high ∧ 1 ≤ high ∧ high ≤ 2 * n ∧ Rz s low < n ∧ m = (2 * n - high).toNat,
    ⟨_, exn hp, -1, 1, _, rfl, by omega, by omega, by omega, by omega, by rw [Rz_neg (by omega)]; omega, rfl⟩, ?_⟩
  rintro m σ H' ⟨eH, low, high, x, rfl, l1, l2, l3, l4, l5, rfl⟩
  walk_at "rd"
  unfold sp_L_reach
  walk_at "rd"
  refine ⟨by omega, by omega, by omega, by omega, ?_⟩
  refine ite2 (fun hlt => ?_) (fun hge => ?_)
  · have hg := Rz_gt (s := s) (r := high) h3 (by omega)
    refine ⟨fun σ' H'' => H'' = H' ∧ ∃ low' high' x', σ' = [some (.int n), some (.int s), some (.int low'), some (.int high'), x'] ∧ -1 ≤ low' ∧ low' < high' ∧ 1 ≤ high' ∧ high' ≤ 2 * n ∧ Rz s low' < n ∧ high < high',
      fun σ' H'' ⟨e, low', high', x', e1, e2, e3, e4, e5, e6, e7⟩ => ⟨_, ?_, by rw [e]; exact eH, low', high', x', e1, e2, e3, e4, e5, e6, rfl⟩, ?_, ?_⟩
    · omega
    · unfold CMulB; have hB := big_200; omega
    · refine ⟨rfl, high, 2 * high, x, rfl, by omega, by omega, by omega, by omega, hlt, by omega⟩
  · refine ⟨fun m σ H'' => H'' = H' ∧ ∃ low high x, σ = [some (.int n), some (.int s), some (.int low), some (.int high), x] ∧ -1 ≤ low ∧ low < high ∧ high ≤ 2 * n ∧ Rz s low < n ∧ n ≤ Rz s high ∧ m = (high - low).toNat,
      ⟨_, rfl, low, high, x, rfl, l1, l2, l4, l5, by omega, rfl⟩, ?_⟩
    rintro m σ H'' ⟨rfl, low, high, x, rfl, l1, l2, l4, l5, l6, rfl⟩
    walk_at "rd"
    refine ite2 (fun hlt => ?_) (fun hge => ?_)
    · refine ⟨fun σ' H' => H' = H'' ∧ ∃ low' high' x', σ' = [some (.int n), some (.int s), some (.int low'), some (.int high'), x'] ∧ -1 ≤ low' ∧ low' < high' ∧ high' ≤ 2 * n ∧ Rz s low' < n ∧ n ≤ Rz s high' ∧ high' - low' < high - low,
        fun σ' H' ⟨e, low', high', x', e1, e2, e3, e5, e6, e7, e8⟩ => ⟨_, ?_, e, low', high', x', e1, e2, e3, e5, e6, e7, rfl⟩, ?_⟩
      · omega
      · unfold CDivB
        refine ⟨by omega, by omega, by omega, by omega, by omega, ?_⟩
        refine ite2 (fun h => ?_) (fun h => ?_)
        · exact ⟨rfl, (low + high) / 2, high, _, rfl, by omega, by omega, by omega, h, l6, by omega⟩
        · exact ⟨rfl, low, (low + high) / 2, _, rfl, by omega, by omega, by omega, l5, by omega, by omega⟩
    · have e : rho n s = high := rho_eq h1 h3 (by omega) l6 (by rw [show high - 1 = low by omega]; exact l5)
      rw [e] at q
      exact q _ eH
def sp_L_least (K : PySem.W.Frag) : Sp := sp2 fun a b H Q _ => ∃ (n s : Int), a = .int n ∧ b = .int s ∧ 1 ≤ n ∧ n ≤ 10 ^ 30 ∧ 1 ≤ s ∧ s ≤ 100 ∧ ∀ H', Ex H H' → Q (.int (tz n s)) H'
theorem sc_L_least : FnScope ["_law_length", "_law_slots", "_law_times"] ["_law_length", "_law_slots"] (defScope s_L_least) := ⟨rfl, rfl, rfl, by decide +kernel, rfl, by decide +kernel, by decide +kernel⟩
theorem ok_L_least (T : Txt P w K mg base) : FnOk P w K mg base (L2.CX P w) 3 T.a_L_least T.fd_L_least ["_law_length", "_law_slots"] (sp_L_least K) := by
  refine FunD.ok T.F_L_least sc_L_least (fun vs H Q E h => ar2 h) (fun cdv A fr s H vs Q E hr h => ⟨_, PSs.nox (pss_cons (ps_set (i := 2) sc_L_least.nd rfl (.inl rfl) (pe_call (ok_L_rounds T) hr (by rfl) T.g_L_rounds T.F_L_rounds.kp T.b_L_rounds .nil passL (pa_cons (pv 0) (pa_cons (pv 1) pa_nil)))) (pss_one (ps_ret (pe_op op_sub (pe_op op_mulB (pv 2) (pv 0)) (pe_call (ok_L_reach T) (hr.mono (by decide)) (by rfl) T.g_L_reach T.F_L_reach.kp T.b_L_reach .nil passL (pa_cons (pe_op op_add (pv 1) pe_int) (pa_cons (pe_op op_sub (pv 2) pe_int) pa_nil))))))), ?_⟩)
  obtain ⟨_, _, rfl, n, s, rfl, rfl, h1, h2, h3, h4, q⟩ := h
  walk_at "rd"
  unfold sp_L_rounds sp_L_reach
  walk_at "rd"
  have r0 := rho_nonneg n s
  have r1 := rho_lt (n := n) (s := s) h1 h3
  refine ⟨h1, h2, h3, by omega, fun H' e => ⟨by walk_at "ar", by omega, by omega, by omega, by omega, ?_⟩⟩
  exact q H' e
def pD (p : Int × Int) : PyData := .tuple [.int p.1, .int p.2]
theorem pD_rp {H : Hp} {S : Addr → Prop} {a : Addr} {p : Int × Int} (m : S a) (h : H a = some (.tup [.int p.1, .int p.2])) : Rp H S (.ref a) (pD p) := .tup m h (.cons (.int _) (.cons (.int _) .nil))
theorem rp_pD {H : Hp} {S : Addr → Prop} {v : V} {p : Int × Int} (h : Rp H S v (pD p)) : ∃ a, v = .ref a ∧ S a ∧ H a = some (.tup [.int p.1, .int p.2]) := by
  cases h with
  | tup m e r => cases r with | cons r1 r => cases r1; cases r with | cons r1 r => cases r1; cases r; exact ⟨_, rfl, m, e⟩
theorem manyT_min {n s k : Int} (hs : 1 ≤ s) (hk : 0 ≤ k) (h : Rz s k < n) : min (n - Rz s k) (Rz (s - 1) (k + 1)) = manyT n s (k + 1) := by
  have e : Rz s (k + 1) = Rz (s - 1) (k + 1) + Rz s k := by
    by_cases h1 : s = 1
    · subst h1
      rw [show (1 : Int) - 1 = 0 by rfl, Rz_zero, Rz_one (by omega), Rz_one hk]
      omega
    · have := Rz_pascal (s := s) (r := k + 1) (by omega) (by omega)
      rw [show k + 1 - 1 = k by omega] at this
      exact this
  unfold manyT
  rw [show k + 1 - 1 = k by omega]
  omega
def sp_step_times (K : PySem.W.Frag) : Sp := sp2 fun a b H Q E => ∃ (n s : Int), a = .int n ∧ b = .int s ∧ 1 ≤ n ∧ n ≤ 10 ^ 30 ∧ 1 ≤ s ∧ s ≤ 100 ∧
  (rho n s ≤ 1000 → ∀ v H', Ex H H' → Rp H' (New H) v (.list ((stL n s (rho n s).toNat).map pD)) → Q v H') ∧ (1000 < rho n s → ∀ H' d, Ex H H' → H d = none → H' d = some (.xd [("limit", .int 1000)]) → E (.ref (eC K 4)) (some d) H')
theorem sc_step_times : FnScope ["length", "slots", "found", "left", "times", "many"] ["length", "slots"] (defScope s_step_times) := ⟨rfl, rfl, rfl, by decide +kernel, rfl, by decide +kernel, by decide +kernel⟩
theorem ok_step_times (T : Txt P w K mg base) : FnOk P w K mg base (L2.CX P w) 5 T.a_step_times T.fd_step_times ["length", "slots"] (sp_step_times K) := by
  refine FunD.ok T.F_step_times sc_step_times (fun vs H Q E h => ar2 h) (fun cdv A fr s H vs Q E hr h => ⟨_, (Evl.pss_cut (ps_expr (pe_call (ok_require_task T) hr (by rfl) T.g_require_task T.F_require_task.kp T.b_require_task .nil passL (pa_cons (pv 0) (pa_cons (pv 1) pa_nil)))) (Evl.pss_cut (ps_if (pt_cmpR op_gt (pe_call (ok_rounds_of T) (hr.mono (by decide)) (by rfl) T.g_rounds_of T.F_rounds_of.kp T.b_rounds_of .nil passL (pa_cons (pv 0) (pa_cons (pv 1) pa_nil))) (pe_glob (v := .int 1000) (by rfl) T.c_MOST_ROUNDS ⟨_, rfl⟩) (nomark _)) (pss_one (ps_raise rfl (takes_of rfl rfl rfl rfl) (pmk_init T.i_4 (ok_TooLarge___init__ T) (hr.mono (by decide)) T.b_TooLarge___init__ (by rfl) (T.er.gl 4 (by decide)) (pa_cons (pe_glob (v := .int 1000) (by rfl) T.c_MOST_ROUNDS ⟨_, rfl⟩) pa_nil)))) pss_nil) (Evl.pss_cut (ps_par3 (i := 2) (j := 3) (l := 4) (by rfl) sc_step_times.nd rfl rfl rfl (by decide) (by decide) (by decide) rfl rfl rfl (pa_cons (pe_lst pa_nil) (pa_cons (pe_op op_sub (pv 0) pe_int) (pa_cons pe_int pa_nil))) (by rfl)) (Evl.pss_cut (ps_while (passes_of rfl) (pt_cmpR op_gt (pv 3) pe_int (nomark _)) (pss_cons (ps_set (i := 5) sc_step_times.nd rfl (.inl rfl) (pe_callB (call_min2 rfl) (by rfl) T.n_min (by decide +kernel) (pa_cons (pv 3) (pa_cons (pe_call (ok_reach_of T) (hr.mono (by decide)) (by rfl) T.g_reach_of T.F_reach_of.kp T.b_reach_of .nil passL (pa_cons (pe_op op_sub (pv 1) pe_int) (pa_cons (pv 4) pa_nil))) pa_nil)))) (pss_cons (ps_expr (pe_bm PySem.F.plainAttrs_list PySem.F.slot_list_append PySem.F.type_list_append mt_append (pv 2) (pa_cons (pe_tup (pa_cons (pv 4) (pa_cons (pv 5) pa_nil))) pa_nil))) (pss_cons (ps_aug (i := 3) sc_step_times.nd rfl (.inl rfl) (pv 5) ip_sub) (pss_one (ps_aug (i := 4) sc_step_times.nd rfl (.inl rfl) pe_int ip_add)))))) (pss_one (ps_ret (pv 2))))))), ?_⟩)
  obtain ⟨_, _, rfl, n, s, rfl, rfl, n1, n2, s1, s2, q1, q2⟩ := h
  refine Evl.q_cut (M := fun σ' H' => σ' = [some (.int n), some (.int s), none, none, none, none] ∧ H = H') ?_ ?_
  · unfold sp_require_task
    walk_at "rd"
    exact ⟨n1, n2, s1, s2⟩
  rintro σ _ ⟨rfl, rfl⟩
  refine Evl.q_cut (M := fun σ' H' => σ' = [some (.int n), some (.int s), none, none, none, none] ∧ Ex H H' ∧ rho n s ≤ 1000) ?_ ?_
  · unfold sp_rounds_of
    walk_at "rd"
    exact ⟨n1, n2, s1, by omega, fun H' e => ite2 (fun h d hd => q2 h _ d (e.trans (exn hd)) (Evl.fresh_back e hd) upd_same) fun h => ⟨e, by omega⟩⟩
  rintro σ H1 ⟨rfl, e1, hr⟩
  have r0 := rho_nonneg n s
  refine Evl.q_cut (M := fun σ' H' => ∃ F, σ' = [some (.int n), some (.int s), some (.ref F), some (.int (n - 1)), some (.int 1), none] ∧ Ex H1 H' ∧ H1 F = none ∧ H' F = some (.lst [])) ?_ ?_
  · walk_at "rd"
    exact fun p hp => ⟨exn hp, hp⟩
  rintro σ H2 ⟨F, rfl, e2, nF, hF⟩
  have nF0 := Evl.fresh_back e1 nF
  refine Evl.q_cut (M := fun σ' H' => ∃ xs x y z, σ' = [some (.int n), some (.int s), some (.ref F), x, y, z] ∧ Ex H1 H' ∧ H' F = some (.lst xs) ∧ RpA H' (fun b => New H b ∧ b ≠ F) xs ((stL n s (rho n s).toNat).map pD)) ?_ ?_
  · walk_at "rd"
    refine ⟨fun m σ' H' => ∃ k : Nat, ∃ xs z, σ' = [some (.int n), some (.int s), some (.ref F), some (.int (n - min n (Rz s k))), some (.int ((k : Int) + 1)), z] ∧ Ex H1 H' ∧ (k : Int) ≤ rho n s ∧ H' F = some (.lst xs) ∧ RpA H' (fun b => New H b ∧ b ≠ F) xs ((stL n s k).map pD) ∧ m = ((rho n s).toNat - k),
      ⟨_, 0, [], none, ?_, e2, by omega, hF, .nil, rfl⟩, ?_⟩
    · have := Rz_r0 (s := s) (by omega)
      rw [show ((0 : Nat) : Int) = 0 from rfl, this, show min n 1 = 1 by omega]
      rfl
    rintro m σ' H3 ⟨k, xs, z, rfl, e3, hk, hF3, rx, rfl⟩
    unfold sp_reach_of
    walk_at "rd"
    have b0 := rho_reach (n := n) (s := s) s1
    by_cases hk2 : (k : Int) < rho n s
    · have b1 := rho_least (n := n) (s := s) (q := (k : Int)) n1 s1 (by omega) hk2
      have b2 := manyT_min (n := n) (s := s) (k := (k : Int)) s1 (by omega) b1
      have eif : (if Rz (s - 1) ((k : Int) + 1) < n - min n (Rz s k) then Rz (s - 1) ((k : Int) + 1) else n - min n (Rz s k)) = manyT n s ((k : Int) + 1) := by
        rw [← b2]
        split <;> omega
      rw [eif]
      have el : n - min n (Rz s k) - manyT n s ((k : Int) + 1) = n - min n (Rz s ((k + 1 : Nat) : Int)) := by
        unfold manyT
        rw [show (k : Int) + 1 - 1 = k by omega, show ((k + 1 : Nat) : Int) = (k : Int) + 1 by omega]
        omega
      rw [el]
      refine iteY (by omega) ⟨fun σ' H' => ∃ xs z, σ' = [some (.int n), some (.int s), some (.ref F), some (.int (n - min n (Rz s ((k + 1 : Nat) : Int)))), some (.int ((k : Int) + 1 + 1)), z] ∧ Ex H1 H' ∧ H' F = some (.lst xs) ∧ RpA H' (fun b => New H b ∧ b ≠ F) xs ((stL n s (k + 1)).map pD),
        fun σ' H' ⟨xs, z, h1, h2, h3, h4⟩ => ⟨_, by omega, k + 1, xs, z, h1, h2, by omega, h3, h4, rfl⟩, by omega, by omega, by omega, by omega, ⟨_, sq_l hF3⟩, fun p hp => ⟨xs, exn hp _ _ hF3, ?_, _, _, rfl, ?_, upd_same, ?_⟩⟩
      · rw [rx.len, List.length_map, stL_len]
        omega
      · exact Mo.ex_new (e3.trans (exn hp)) nF Mo.upd
      · rw [stL_succ, List.map_append]
        have npF : p ≠ F := fun z => by rw [z, hF3] at hp; cases hp
        have kp : ∀ b o, New H b ∧ b ≠ F → upd H3 p (.tup [.int ((k : Int) + 1), .int (manyT n s ((k : Int) + 1))]) b = some o → upd (upd H3 p (.tup [.int ((k : Int) + 1), .int (manyT n s ((k : Int) + 1))])) F (.lst (xs ++ [.ref p])) b = some o := fun b o hb h => by rw [upd_ne hb.2]; exact h
        refine ((rx.ex (exn hp)).keep kp fun _ h => h).app (.cons (pD_rp ⟨Evl.fresh_back (e1.trans e3) hp, npF⟩ ?_) .nil)
        rw [upd_ne npF, upd_same]
    · have ek : (k : Int) = rho n s := by omega
      have e2' : (rho n s).toNat = k := by omega
      rw [e2', ek]
      exact iteNo (by omega) ⟨e3, xs, hF3, rx⟩
  rintro σ H3 ⟨xs, x, y, z, rfl, e3, hF3, rx⟩
  walk_at "rd"
  exact q1 hr _ _ (e1.trans e3) (.lst nF0 hF3 (rx.sub fun b h => h.1))
/-! what plans keep ascends -/
def TSt.up (t : TSt) : Op → Prop
  | .go k => 1 ≤ k
  | .keep => ∀ k ∈ t.kept, k < t.hand
  | _ => True
def TSt.ups : TSt → List Op → Prop
  | _, [] => True
  | t, o :: os => t.up o ∧ TSt.ups (t.did o) os
theorem ups_app : ∀ (a b : List Op) (t : TSt), t.ups (a ++ b) ↔ t.ups a ∧ (t.run a).ups b
  | [], _, _ => ⟨fun h => ⟨trivial, h⟩, fun h => h.2⟩
  | o :: a, b, t => by
    show (_ ∧ TSt.ups (t.did o) (a ++ b)) ↔ ((_ ∧ TSt.ups (t.did o) a) ∧ _)
    rw [ups_app a b (t.did o), and_assoc]
    exact Iff.rfl
theorem ups_row (n b : Int) : ∀ (k : Nat) (t : TSt), t.ups (rowL n b k)
  | 0, t => ⟨trivial, trivial⟩
  | k + 1, t => ⟨by show 1 ≤ ((k + 1 : Nat) : Int); omega, trivial, trivial, ups_row n b k _⟩
theorem ups_plan : ∀ n s : Int, 1 ≤ n → 1 ≤ s → ∀ (b : Int) (t : TSt), t.hand = b → (∀ k ∈ t.kept, k ≤ b) → t.ups (opsL n s b) := by
  refine plan_ind (fun n s hn hs h b t ht hk => ?_) fun n s hn hs ih1 ih2 b t ht hk => ?_
  · rw [opsL_row h]
    exact ups_row n b _ t
  · obtain ⟨l1, l2, l3⟩ := loz_range hn hs
    rw [opsL_two hn hs]
    have t1h : (t.did (.go (hiz n s))).hand = b + hiz n s := by show t.hand + hiz n s = _; rw [ht]
    refine ⟨by show 1 ≤ hiz n s; omega, ?_⟩
    rw [ups_app, ups_app, ups_app]
    rcases kp_01 n s with k | k
    · have k' : ¬ kp n s = 1 := by omega
      rw [if_neg k', if_neg k']
      have k1 : ∀ k ∈ (t.did (.go (hiz n s))).kept, k ≤ b + hiz n s := fun k hk' => by have := hk k hk'; omega
      have r1 := run_plan (n - hiz n s) (s - 1) (by omega) (by omega) (b + hiz n s) (t.did (.go (hiz n s))) t1h k1
      refine ⟨⟨⟨trivial, ih1 _ _ t1h k1⟩, trivial⟩, trivial, ?_⟩
      rw [List.nil_append, List.append_nil, r1]
      exact ih2 b _ rfl hk
    · rw [if_pos k, if_pos k]
      have nk : b + hiz n s ∉ t.kept := fun z => by have := hk _ z; omega
      have c1 : ∀ k ∈ ((t.did (.go (hiz n s))).did .keep).kept, k ≤ b + hiz n s := fun k hk' => by
        have hk2 : k ∈ t.kept ++ [t.hand + hiz n s] := hk'
        rcases List.mem_append.mp hk2 with h | h
        · have := hk k h; omega
        · rw [List.mem_singleton.mp h, ht]; omega
      have r1 := run_plan (n - hiz n s) (s - 1) (by omega) (by omega) (b + hiz n s) ((t.did (.go (hiz n s))).did .keep) t1h c1
      refine ⟨⟨⟨⟨fun k hk' => ?_, trivial⟩, ih1 _ _ t1h c1⟩, trivial, trivial⟩, trivial, ?_⟩
      · have hk2 : k ∈ t.kept := hk'
        show k < t.hand + hiz n s
        have := hk k hk2
        omega
      · rw [run_app, run_app]
        show TSt.ups (((((t.did (.go (hiz n s))).did .keep).run (opsL (n - hiz n s) (s - 1) (b + hiz n s))).did (.free (b + hiz n s))).did (.take b)) (opsL (hiz n s) s b)
        rw [r1]
        have ek : ((((t.did (.go (hiz n s))).did .keep).past (b + hiz n s) (n - hiz n s) (s - 1)).did (.free (b + hiz n s))).kept = t.kept := by
          show (t.kept ++ [t.hand + hiz n s]).erase (b + hiz n s) = t.kept
          rw [ht]
          exact erase_last nk
        refine ih2 b _ rfl (fun k hk' => ?_)
        have hk2 : k ∈ ((((t.did (.go (hiz n s))).did .keep).past (b + hiz n s) (n - hiz n s) (s - 1)).did (.free (b + hiz n s))).kept := hk'
        rw [ek] at hk2
        exact hk k hk2
/-- ascending, each state one of the first n -/
def TSt.asc (t : TSt) : Prop := t.kept.Pairwise (· < ·)
theorem asc_did {t : TSt} {o : Op} (h : t.asc) (u : t.up o) : (t.did o).asc := by
  cases o with
  | keep =>
    show (t.kept ++ [t.hand]).Pairwise (· < ·)
    rw [List.pairwise_append]
    exact ⟨h, List.pairwise_singleton .., fun a ha b hb => by rw [List.mem_singleton.mp hb]; exact u a ha⟩
  | free m => exact h.sublist (List.erase_sublist ..)
  | go k => exact h
  | take m => exact h
  | back => exact h
theorem asc_nodup {t : TSt} (h : t.asc) : t.kept.Nodup := h.imp fun h e => by omega
/-- step by step -/
theorem run_succ {t : TSt} {os : List Op} {i : Nat} {o : Op} (h : os[i]? = some o) : t.run (os.take (i + 1)) = (t.run (os.take i)).did o := by
  obtain ⟨hl, e⟩ := List.getElem?_eq_some_iff.mp h
  rw [List.take_succ_eq_append_getElem hl, run_app, e]
  rfl
theorem ok_at : ∀ {os : List Op} {t : TSt} {i : Nat} {o : Op}, t.ok os → os[i]? = some o → (t.run (os.take i)).can o = true
  | [], t, i, o, _, h => by simp at h
  | a :: os, t, 0, o, k, h => by simp at h; subst h; exact k.1
  | a :: os, t, i + 1, o, k, h => by simp at h; exact ok_at (os := os) k.2 h
theorem ups_at : ∀ {os : List Op} {t : TSt} {i : Nat} {o : Op}, t.ups os → os[i]? = some o → (t.run (os.take i)).up o
  | [], t, i, o, _, h => by simp at h
  | a :: os, t, 0, o, k, h => by simp at h; subst h; exact k.1
  | a :: os, t, i + 1, o, k, h => by simp at h; exact ups_at (os := os) k.2 h
theorem run_n : ∀ {os : List Op} {t : TSt}, (t.run os).n = t.n ∧ (t.run os).s = t.s
  | [], t => ⟨rfl, rfl⟩
  | o :: os, t => by
    have h := run_n (os := os) (t := t.did o)
    cases o <;> exact h
/-! where the backs are -/
def backsP : List Op → Int → List Int
  | [], _ => []
  | .back :: r, c => c :: backsP r (c + 1)
  | _ :: r, c => backsP r (c + 1)
theorem backsP_app : ∀ (l r : List Op) (c : Int), backsP (l ++ r) c = backsP l c ++ backsP r (c + l.length)
  | [], r, c => by show backsP r c = [] ++ backsP r (c + 0); rw [Int.add_zero]; rfl
  | o :: l, r, c => by
    have e : c + ((o :: l).length : Int) = c + 1 + (l.length : Int) := by rw [List.length_cons]; omega
    rw [e]
    cases o with
    | back => exact congrArg _ (backsP_app l r (c + 1))
    | go k => exact backsP_app l r (c + 1)
    | take m => exact backsP_app l r (c + 1)
    | keep => exact backsP_app l r (c + 1)
    | free m => exact backsP_app l r (c + 1)
theorem range_add_map {α : Type} (a b : Nat) (f : Nat → α) : (List.range (a + b)).map f = (List.range a).map f ++ (List.range b).map fun i => f (a + i) := by
  induction b with
  | zero => simp
  | succ b ih => rw [← Nat.add_assoc, List.range_succ, List.map_append, ih, List.range_succ, List.map_append, List.append_assoc]; rfl
theorem backs_row (n b : Int) : ∀ (k : Nat) (c : Int), backsP (rowL n b k) c = (List.range (k + 1)).map fun (j : Nat) => c + 3 * (j : Int) + if j < k then 1 else 0
  | 0, c => by
    show [c] = [c + 3 * ((0 : Nat) : Int) + if 0 < 0 then 1 else 0]
    rw [if_neg (by decide)]
    congr 1
    omega
  | k + 1, c => by
    show (c + 1) :: backsP (rowL n b k) (c + 1 + 1 + 1) = _
    rw [backs_row n b k, List.range_succ_eq_map (n := k + 1), List.map_cons, List.map_map]
    congr 1
    · rw [if_pos (by omega)]; omega
    · refine List.map_congr_left fun j _ => ?_
      show c + 1 + 1 + 1 + 3 * (j : Int) + (if j < k then 1 else 0) = c + 3 * ((j + 1 : Nat) : Int) + if j + 1 < k + 1 then 1 else 0
      by_cases h : j < k
      · rw [if_pos h, if_pos (by omega)]; omega
      · rw [if_neg h, if_neg (by omega)]; omega
theorem backs_plan : ∀ n s : Int, 1 ≤ n → 1 ≤ s → ∀ b c, backsP (opsL n s b) c = (List.range n.toNat).map fun (j : Nat) => c + backAt n s (n - 1 - (j : Int)) := by
  refine plan_ind (fun n s hn hs h b c => ?_) fun n s hn hs ih1 ih2 b c => ?_
  · rw [opsL_row h, backs_row, show (n - 1).toNat + 1 = n.toNat by omega]
    refine List.map_congr_left fun j hj => ?_
    have hj := List.mem_range.mp hj
    rw [backAt_row h, show n - 1 - (n - 1 - (j : Int)) = (j : Int) by omega]
    by_cases h : j < (n - 1).toNat
    · rw [if_pos h, if_pos (by omega)]; omega
    · rw [if_neg h, if_neg (by omega)]; omega
  · obtain ⟨l1, l2, l3⟩ := loz_range hn hs
    have len := opsL_len (n - hiz n s) (s - 1) (by omega) (by omega) (b + hiz n s)
    have e : n.toNat = (n - hiz n s).toNat + (hiz n s).toNat := by omega
    rw [e, range_add_map, opsL_two hn hs]
    have p1 : ∀ c', ((List.range (n - hiz n s).toNat).map fun (j : Nat) => c' + backAt (n - hiz n s) (s - 1) (n - hiz n s - 1 - (j : Int))) = (List.range (n - hiz n s).toNat).map fun (j : Nat) => c' - (1 + kp n s) + backAt n s (n - 1 - (j : Int)) := fun c' => by
      refine List.map_congr_left fun j hj => ?_
      have hj := List.mem_range.mp hj
      rw [backAt_two hn hs, if_pos (by omega), show n - 1 - (j : Int) - hiz n s = n - hiz n s - 1 - (j : Int) by omega]
      omega
    have p2 : ∀ c', ((List.range (hiz n s).toNat).map fun (j : Nat) => c' + backAt (hiz n s) s (hiz n s - 1 - (j : Int))) = (List.range (hiz n s).toNat).map fun (j : Nat) => c' - (2 + 2 * kp n s + opsN (n - hiz n s) (s - 1)) + backAt n s (n - 1 - (((n - hiz n s).toNat + j : Nat) : Int)) := fun c' => by
      refine List.map_congr_left fun j hj => ?_
      have hj := List.mem_range.mp hj
      rw [backAt_two hn hs, if_neg (by omega), show n - 1 - (((n - hiz n s).toNat + j : Nat) : Int) = hiz n s - 1 - (j : Int) by omega]
      omega
    show backsP (_ ++ _) (c + 1) = _
    rw [backsP_app, backsP_app, backsP_app]
    rcases kp_01 n s with k | k
    · have k' : ¬ kp n s = 1 := by omega
      rw [if_neg k', if_neg k', List.nil_append]
      show ([] ++ backsP (opsL (n - hiz n s) (s - 1) (b + hiz n s)) (c + 1 + 0)) ++ [] ++ backsP (opsL (hiz n s) s b) (_ + 1) = _
      rw [List.nil_append, List.append_nil, ih1, ih2, p1, p2, List.append_nil]
      congr 1
      · refine List.map_congr_left fun j _ => ?_
        omega
      · refine List.map_congr_left fun j _ => ?_
        omega
    · rw [if_pos k, if_pos k]
      show ([] ++ backsP (opsL (n - hiz n s) (s - 1) (b + hiz n s)) (c + 1 + 1)) ++ [] ++ backsP (opsL (hiz n s) s b) (_ + 1) = _
      rw [List.nil_append, List.append_nil, ih1, ih2, p1, p2]
      congr 1
      · refine List.map_congr_left fun j _ => ?_
        omega
      · refine List.map_congr_left fun j _ => ?_
        simp only [List.length_append, List.length_cons, List.length_nil]
        omega
theorem range_filter_map (p : Int → Bool) : ∀ l : List Int, ((List.range l.length).filter fun i => p (l.getD i 0)).map (fun i => l.getD i 0) = l.filter p
  | [] => rfl
  | a :: l => by
    have ih := range_filter_map p l
    rw [List.length_cons, List.range_succ_eq_map, List.filter_cons, List.filter_map, List.filter_cons]
    have e1 : ((List.range l.length).filter ((fun i => p ((a :: l).getD i 0)) ∘ Nat.succ)) = (List.range l.length).filter fun i => p (l.getD i 0) := rfl
    have e2 : ((((List.range l.length).filter fun i => p (l.getD i 0)).map Nat.succ).map fun i => (a :: l).getD i 0) = ((List.range l.length).filter fun i => p (l.getD i 0)).map fun i => l.getD i 0 := by
      rw [List.map_map]; rfl
    rw [e1]
    by_cases h : p a = true
    · rw [if_pos h, if_pos (show p ((a :: l).getD 0 0) = true from h), List.map_cons, e2, ih]; rfl
    · rw [if_neg h, if_neg (show ¬ p ((a :: l).getD 0 0) = true from h), e2, ih]
/-! ### plans, by number -/
def gos : List Op → Int
  | [] => 0
  | .go k :: r => k + gos r
  | .keep :: r => gos r
  | .back :: r => gos r
  | .take _ :: r => gos r
  | .free _ :: r => gos r
theorem run_gos : ∀ (os : List Op) (t : TSt), (t.run os).steps = t.steps + gos os
  | [], t => (Int.add_zero _).symm
  | .go k :: r, t => by
    show ((t.did (.go k)).run r).steps = t.steps + (k + gos r)
    rw [run_gos r]
    show t.steps + k + gos r = _
    omega
  | .keep :: r, t => run_gos r (t.did .keep)
  | .back :: r, t => run_gos r (t.did .back)
  | .take m :: r, t => run_gos r (t.did (.take m))
  | .free m :: r, t => run_gos r (t.did (.free m))
theorem run_bks : ∀ (os : List Op) (t : TSt) (c : Int), (t.run os).backs = t.backs + ((backsP os c).length : Int)
  | [], t, c => (Int.add_zero _).symm
  | .go k :: r, t, c => run_bks r (t.did (.go k)) (c + 1)
  | .keep :: r, t, c => run_bks r (t.did .keep) (c + 1)
  | .back :: r, t, c => by
    show ((t.did .back).run r).backs = t.backs + (((backsP r (c + 1)).length + 1 : Nat) : Int)
    rw [run_bks r _ (c + 1)]
    show t.backs + 1 + _ = _
    omega
  | .take m :: r, t, c => run_bks r (t.did (.take m)) (c + 1)
  | .free m :: r, t, c => run_bks r (t.did (.free m)) (c + 1)
theorem gos_nn : ∀ {os : List Op}, (∀ o ∈ os, 0 ≤ o.num) → 0 ≤ gos os
  | [], _ => Int.le_refl _
  | o :: r, h => by
    have ih := gos_nn (os := r) fun o ho => h o (List.mem_cons_of_mem _ ho)
    have h0 := h o (List.mem_cons_self ..)
    cases o with
    | go k => have h0 : 0 ≤ k := h0; show 0 ≤ k + gos r; omega
    | _ => exact ih
def p0 (n s : Int) : TSt := ⟨n, s, 0, [0], 0, 0⟩
theorem at_mom {n s : Int} (hn : 1 ≤ n) (hs : 1 ≤ s) {i : Nat} (hi : (i : Int) ≤ opsN n s) : ((p0 n s).run ((opsL n s 0).take i)).m = momT n s i :=
  pre_plan n s hn hs 0 i (p0 n s) rfl (fun k hk => by rw [List.mem_singleton.mp hk]; exact Int.le_refl _) hi
theorem win {n s : Int} (hn : 1 ≤ n) (hs : 1 ≤ s) {i k : Nat} (h : ((i + k : Nat) : Int) ≤ opsN n s) : (momT n s (i + k : Nat)).steps = (momT n s i).steps + gos (((opsL n s 0).drop i).take k) ∧
    (momT n s (i + k : Nat)).backs = (momT n s i).backs + ((backsP (((opsL n s 0).drop i).take k) 0).length : Int) := by
  rw [← at_mom hn hs h, ← at_mom hn hs (i := i) (by omega), List.take_add, run_app]
  exact ⟨run_gos _ _, run_bks _ _ 0⟩
theorem mom_up {n s : Int} (hn : 1 ≤ n) (hs : 1 ≤ s) {i j : Int} (h0 : 0 ≤ i) (h1 : i ≤ j) (h2 : j ≤ opsN n s) : (momT n s i).steps ≤ (momT n s j).steps ∧ (momT n s i).backs ≤ (momT n s j).backs := by
  have w := win (n := n) (s := s) (i := i.toNat) (k := (j - i).toNat) hn hs (by omega)
  rw [show ((i.toNat + (j - i).toNat : Nat) : Int) = j by omega, show ((i.toNat : Nat) : Int) = i by omega] at w
  have g := gos_nn (os := ((opsL n s 0).drop i.toNat).take (j - i).toNat) fun o ho => (opsL_num n s hn hs 0 (Int.le_refl _) o (List.mem_of_mem_drop (List.mem_of_mem_take ho))).1
  omega
theorem backsP_mem : ∀ (os : List Op) (c p : Int), p ∈ backsP os c ↔ ∃ i : Nat, os[i]? = some .back ∧ p = c + i
  | [], c, p => ⟨(fun h => nomatch h), fun ⟨i, h, _⟩ => by simp at h⟩
  | o :: r, c, p => by
    have ih := backsP_mem r (c + 1) p
    have down : (∃ i : Nat, r[i]? = some .back ∧ p = c + 1 + i) ↔ ∃ i : Nat, 0 < i ∧ (o :: r)[i]? = some .back ∧ p = c + i := by
      constructor
      · rintro ⟨i, h, e⟩
        exact ⟨i + 1, by omega, by rw [List.getElem?_cons_succ]; exact h, by omega⟩
      · rintro ⟨i, h0, h, e⟩
        obtain ⟨j, rfl⟩ : ∃ j, i = j + 1 := ⟨i - 1, by omega⟩
        rw [List.getElem?_cons_succ] at h
        exact ⟨j, h, by omega⟩
    have no : o ≠ .back → ((∃ i : Nat, 0 < i ∧ (o :: r)[i]? = some .back ∧ p = c + i) ↔ ∃ i : Nat, (o :: r)[i]? = some .back ∧ p = c + i) := by
      intro hne
      constructor
      · rintro ⟨i, _, h⟩
        exact ⟨i, h⟩
      · rintro ⟨i, h, e⟩
        refine ⟨i, Nat.pos_of_ne_zero fun z => ?_, h, e⟩
        subst z
        rw [List.getElem?_cons_zero] at h
        exact hne (Option.some.inj h)
    cases o with
    | back =>
      show p ∈ c :: backsP r (c + 1) ↔ _
      rw [List.mem_cons, ih, down]
      exact ⟨fun h => h.elim (fun e => ⟨0, rfl, by omega⟩) fun ⟨i, _, h⟩ => ⟨i, h⟩, fun ⟨i, h, e⟩ => by
        rcases Nat.eq_zero_or_pos i with z | z
        · exact .inl (by omega)
        · exact .inr ⟨i, z, h, e⟩⟩
    | go k => exact (ih.trans down).trans (no fun z => nomatch z)
    | keep => exact (ih.trans down).trans (no fun z => nomatch z)
    | take k => exact (ih.trans down).trans (no fun z => nomatch z)
    | free k => exact (ih.trans down).trans (no fun z => nomatch z)
theorem backsP_up : ∀ (os : List Op) (c : Int), (backsP os c).Pairwise (· < ·)
  | [], _ => .nil
  | .back :: r, c => .cons (fun p hp => by obtain ⟨i, _, e⟩ := (backsP_mem r (c + 1) p).mp hp; omega) (backsP_up r (c + 1))
  | .go k :: r, c => backsP_up r (c + 1)
  | .keep :: r, c => backsP_up r (c + 1)
  | .take k :: r, c => backsP_up r (c + 1)
  | .free k :: r, c => backsP_up r (c + 1)
theorem back_down {n s : Int} (hn : 1 ≤ n) (hs : 1 ≤ s) {x y : Int} (h0 : 0 ≤ y) (h1 : y < x) (h2 : x < n) : backAt n s x < backAt n s y := by
  have h := backsP_up (opsL n s 0) 0
  rw [backs_plan n s hn hs, List.pairwise_map, List.pairwise_iff_getElem] at h
  have := h (n - 1 - x).toNat (n - 1 - y).toNat (by rw [List.length_range]; omega) (by rw [List.length_range]; omega) (by omega)
  rw [List.getElem_range, List.getElem_range, show n - 1 - (((n - 1 - x).toNat : Nat) : Int) = x by omega, show n - 1 - (((n - 1 - y).toNat : Nat) : Int) = y by omega] at this
  omega
theorem back_is {n s : Int} (hn : 1 ≤ n) (hs : 1 ≤ s) {x : Int} (h0 : 0 ≤ x) (h1 : x < n) : ∃ i : Nat, backAt n s x = i ∧ (opsL n s 0)[i]? = some .back := by
  have h : backAt n s x ∈ backsP (opsL n s 0) 0 := by
    rw [backs_plan n s hn hs]
    exact List.mem_map.mpr ⟨(n - 1 - x).toNat, List.mem_range.mpr (by omega), by rw [show n - 1 - (((n - 1 - x).toNat : Nat) : Int) = x by omega, Int.zero_add]⟩
  obtain ⟨i, h1, h2⟩ := (backsP_mem _ _ _).mp h
  exact ⟨i, by omega, h1⟩
theorem back_in {n s : Int} (hn : 1 ≤ n) (hs : 1 ≤ s) {x : Int} (h0 : 0 ≤ x) (h1 : x < n) : 0 ≤ backAt n s x ∧ backAt n s x < opsN n s ∧ opAt n s 0 (backAt n s x) = .back := by
  obtain ⟨i, e, h⟩ := back_is hn hs h0 h1
  have hl := (List.getElem?_eq_some_iff.mp h).1
  have := opsL_len n s hn hs 0
  rw [e]
  rw [opsL_at n s hn hs 0 i (by omega)] at h
  exact ⟨by omega, by omega, Option.some.inj h⟩
theorem back_gap {n s : Int} (hn : 1 ≤ n) (hs : 1 ≤ s) {x i : Int} (h0 : 1 ≤ x) (h1 : x < n) (h2 : backAt n s x < i) (h3 : i < backAt n s (x - 1)) : opAt n s 0 i ≠ .back := fun z => by
  have b0 := back_in hn hs (x := x) (by omega) h1
  have b1 := back_in hn hs (x := x - 1) (by omega) (by omega)
  have h : i ∈ backsP (opsL n s 0) 0 := (backsP_mem _ _ _).mpr ⟨i.toNat, by rw [opsL_at n s hn hs 0 i.toNat (by omega), show ((i.toNat : Nat) : Int) = i by omega, z], by omega⟩
  rw [backs_plan n s hn hs] at h
  obtain ⟨j, hj, e⟩ := List.mem_map.mp h
  have hj := List.mem_range.mp hj
  rw [Int.zero_add] at e
  rcases Int.lt_trichotomy (n - 1 - (j : Int)) x with c | c | c
  · by_cases c2 : n - 1 - (j : Int) = x - 1
    · rw [c2] at e; omega
    · have := back_down hn hs (x := x - 1) (y := n - 1 - (j : Int)) (by omega) (by omega) (by omega)
      omega
  · rw [c] at e; omega
  · have := back_down hn hs (x := n - 1 - (j : Int)) (y := x) (by omega) c (by omega)
    omega
theorem goesP_mem : ∀ (os : List Op) (t : TSt) (c : Int) (g : Int × Int × Int), g ∈ goesP os c t.hand → ∃ (i : Nat) (k : Int), g = (c + i, (t.run (os.take i)).hand, (t.run (os.take i)).hand + k) ∧ os[i]? = some (.go k)
  | [], _, _, _, h => nomatch h
  | .go k :: r, t, c, g, h => by
    rcases List.mem_cons.mp (show g ∈ (c, t.hand, t.hand + k) :: goesP r (c + 1) (t.hand + k) from h) with e | h
    · exact ⟨0, k, by rw [e]; show _ = (c + 0, t.hand, t.hand + k); rw [Int.add_zero], rfl⟩
    · obtain ⟨i, m, e, h2⟩ := goesP_mem r (t.did (.go k)) (c + 1) g h
      exact ⟨i + 1, m, by rw [e, show c + ((i + 1 : Nat) : Int) = c + 1 + (i : Int) by omega]; rfl, h2⟩
  | .keep :: r, t, c, g, h => by
    obtain ⟨i, m, e, h2⟩ := goesP_mem r (t.did .keep) (c + 1) g h
    exact ⟨i + 1, m, by rw [e, show c + ((i + 1 : Nat) : Int) = c + 1 + (i : Int) by omega]; rfl, h2⟩
  | .back :: r, t, c, g, h => by
    obtain ⟨i, m, e, h2⟩ := goesP_mem r (t.did .back) (c + 1) g h
    exact ⟨i + 1, m, by rw [e, show c + ((i + 1 : Nat) : Int) = c + 1 + (i : Int) by omega]; rfl, h2⟩
  | .take q :: r, t, c, g, h => by
    obtain ⟨i, m, e, h2⟩ := goesP_mem r (t.did (.take q)) (c + 1) g h
    exact ⟨i + 1, m, by rw [e, show c + ((i + 1 : Nat) : Int) = c + 1 + (i : Int) by omega]; rfl, h2⟩
  | .free q :: r, t, c, g, h => by
    obtain ⟨i, m, e, h2⟩ := goesP_mem r (t.did (.free q)) (c + 1) g h
    exact ⟨i + 1, m, by rw [e, show c + ((i + 1 : Nat) : Int) = c + 1 + (i : Int) by omega]; rfl, h2⟩
theorem goesP_le : ∀ (os : List Op) (c d : Int), ∀ g ∈ goesP os c d, c ≤ g.1
  | [], _, _, _, h => nomatch h
  | .go k :: r, c, d, g, h => by
    rcases List.mem_cons.mp (show g ∈ (c, d, d + k) :: goesP r (c + 1) (d + k) from h) with e | h
    · rw [e]; exact Int.le_refl _
    · have := goesP_le r _ _ g h; omega
  | .keep :: r, c, d, g, h => by have := goesP_le r (c + 1) d g h; omega
  | .back :: r, c, d, g, h => by have := goesP_le r (c + 1) d g h; omega
  | .take q :: r, c, d, g, h => by have := goesP_le r (c + 1) q g h; omega
  | .free q :: r, c, d, g, h => by have := goesP_le r (c + 1) d g h; omega
theorem goesP_up : ∀ (os : List Op) (c d : Int), (goesP os c d).Pairwise fun a b => a.1 < b.1
  | [], _, _ => .nil
  | .go k :: r, c, d => .cons (fun g hg => by have := goesP_le r _ _ g hg; show c < g.1; omega) (goesP_up r (c + 1) (d + k))
  | .keep :: r, c, d => goesP_up r (c + 1) d
  | .back :: r, c, d => goesP_up r (c + 1) d
  | .take q :: r, c, d => goesP_up r (c + 1) q
  | .free q :: r, c, d => goesP_up r (c + 1) d
theorem cutP_mem {x a : Int} {g : List (Int × Int × Int)} (h : a ∈ cutP x g) : ∃ d e, (a, d, e) ∈ g ∧ d ≤ x ∧ x < e := by
  unfold cutP at h
  obtain ⟨⟨a', d, e⟩, h1, rfl⟩ := List.mem_map.mp h
  obtain ⟨h2, h3⟩ := List.mem_filter.mp h1
  have h3 := of_decide_eq_true h3
  exact ⟨d, e, h2, h3.1, h3.2⟩
theorem cutP_up {x : Int} {g : List (Int × Int × Int)} (h : g.Pairwise fun a b => a.1 < b.1) : (cutP x g).Pairwise (· < ·) := by
  unfold cutP
  rw [List.pairwise_map]
  exact List.Pairwise.filter _ h
theorem go_facts {n s x v : Int} {k : Nat} (hn : 1 ≤ n) (hs : 1 ≤ s) (h0 : 0 ≤ x) (h1 : x < n - 1) (h : goAt n s x k = some v) : 0 ≤ v ∧ v < opsN n s ∧ ∃ m, opAt n s 0 v = .go m ∧ (momT n s v).hand ≤ x ∧ x < (momT n s v).hand + m := by
  rw [spots_at hn hs h0 h1 k] at h
  obtain ⟨d, e, hm, h2, h3⟩ := cutP_mem (List.mem_of_getElem? h)
  obtain ⟨i, m, e1, h4⟩ := goesP_mem (opsL n s 0) (p0 n s) 0 _ hm
  rw [Prod.mk.injEq, Prod.mk.injEq] at e1
  obtain ⟨rfl, rfl, rfl⟩ := e1
  have hl := (List.getElem?_eq_some_iff.mp h4).1
  have := opsL_len n s hn hs 0
  rw [opsL_at n s hn hs 0 i (by omega)] at h4
  have am := congrArg MSt.hand (at_mom (n := n) (s := s) hn hs (i := i) (by omega))
  have am : ((p0 n s).run ((opsL n s 0).take i)).hand = (momT n s i).hand := am
  rw [Int.zero_add]
  rw [am] at h2 h3
  exact ⟨by omega, by omega, m, Option.some.inj h4, h2, h3⟩
theorem go_up {n s x v v' : Int} {k k' : Nat} (hn : 1 ≤ n) (hs : 1 ≤ s) (h0 : 0 ≤ x) (h1 : x < n - 1) (h : goAt n s x k = some v) (h' : goAt n s x k' = some v') (hk : k < k') : v < v' := by
  rw [spots_at hn hs h0 h1] at h h'
  obtain ⟨a, rfl⟩ := List.getElem?_eq_some_iff.mp h
  obtain ⟨b, rfl⟩ := List.getElem?_eq_some_iff.mp h'
  exact List.pairwise_iff_getElem.mp (cutP_up (goesP_up (opsL n s 0) 0 0)) k k' a b hk
theorem go_some {n s x : Int} {k : Nat} (hn : 1 ≤ n) (hs : 1 ≤ s) (h0 : 0 ≤ x) (h1 : x < n - 1) (hk : (k : Int) < timesD n s x) : ∃ v, goAt n s x k = some v := by
  have := spots_len hn hs h0 h1
  rw [spots_at hn hs h0 h1]
  exact ⟨_, List.getElem?_eq_getElem (by omega)⟩
theorem go_none {n s x : Int} (hn : 1 ≤ n) (hs : 1 ≤ s) (h0 : 0 ≤ x) (h1 : x < n - 1) : goAt n s x (timesD n s x) = none := by
  have := spots_len hn hs h0 h1
  have ti := times_in n s hn hs x h0 h1
  rw [show timesD n s x = (((timesD n s x).toNat : Nat) : Int) by omega, spots_at hn hs h0 h1]
  exact List.getElem?_eq_none (by omega)
theorem backAt_nn (n s : Int) (hn : 1 ≤ n) (hs : 1 ≤ s) (x : Int) (h0 : 0 ≤ x) (h1 : x < n) : 0 ≤ backAt n s x := (back_in hn hs h0 h1).1
theorem goes_last : ∀ n s : Int, 1 ≤ n → 1 ≤ s → ∀ x c, 0 ≤ x → x < n - 1 → ∀ g ∈ goesL n s x c, ∀ a ∈ runG g, a < c + backAt n s x := by
  have rg : ∀ {c k a : Int}, a ∈ runG (c, k, 3) → a ≤ c + 3 * (k - 1) ∧ 0 < k := fun {c k a} h => by
    obtain ⟨j, hj, e⟩ := List.mem_map.mp h
    have hj : j < k.toNat := List.mem_range.mp hj
    have e : c + (j : Int) * 3 = a := e
    omega
  refine plan_ind (fun n s hn hs h x c h0 h1 g hg a ha => ?_) fun n s hn hs ih1 ih2 x c h0 h1 g hg a ha => ?_
  · rw [goesL_row h] at hg
    rw [List.mem_singleton.mp hg] at ha
    have := rg ha
    rw [backAt_row h]
    split <;> omega
  · obtain ⟨l1, l2, l3⟩ := loz_range hn hs
    have k01 := kp_01 n s
    have og := opsN_ge (n - hiz n s) (s - 1) (by omega) (by omega)
    rw [goesL_two hn hs] at hg
    rw [backAt_two hn hs]
    by_cases q : hiz n s ≤ x
    · rw [if_pos q] at hg ⊢
      have := ih1 (x - hiz n s) _ (by omega) (by omega) g hg a ha
      omega
    · rw [if_neg q] at hg ⊢
      have b0 : 0 ≤ backAt (hiz n s) s x := backAt_nn (hiz n s) s (by omega) (by omega) x h0 (by omega)
      rcases List.mem_cons.mp hg with e | hg
      · rw [e] at ha
        obtain ⟨j, hj, e⟩ := List.mem_map.mp ha
        have hj : j < (1 : Int).toNat := List.mem_range.mp hj
        have e : c + (j : Int) * 0 = a := e
        omega
      · split at hg
        · cases hg
        · have := ih2 x _ h0 (by omega) g hg a ha
          omega
theorem go_last {n s x v : Int} {k : Nat} (hn : 1 ≤ n) (hs : 1 ≤ s) (h0 : 0 ≤ x) (h1 : x < n - 1) (h : goAt n s x k = some v) : v < backAt n s x := by
  rw [spots_at hn hs h0 h1 k] at h
  have hm := List.mem_of_getElem? h
  have := cut_plan n s hn hs 0 0 x h0 (by omega)
  rw [this, Int.sub_zero] at hm
  obtain ⟨g, hg, ha⟩ := List.mem_flatMap.mp hm
  have := goes_last n s hn hs x 0 h0 h1 g hg v ha
  omega
theorem tms_row {n s : Int} (hn : 1 ≤ n) (hs : 1 ≤ s) (h : n < 2 ∨ s < 2) : Tms ((List.range (n - 1).toNat).map fun (i : Nat) => timesD n s (i : Int)) n s := by
  by_cases h1 : n = 1
  · subst h1
    exact Tms.one hs
  · have e : s = 1 := by omega
    subst e
    obtain ⟨k, rfl⟩ : ∃ k : Nat, n = (k : Int) + 1 := ⟨(n - 1).toNat, by omega⟩
    have := Tms.slot1 (k := k)
    rw [downL_range] at this
    rw [show ((k : Int) + 1 - 1).toNat = k by omega]
    have e2 : ((List.range k).map fun (i : Nat) => timesD ((k : Int) + 1) 1 (i : Int)) = (List.range k).map fun (i : Nat) => (k : Int) - (i : Int) := List.map_congr_left fun i _ => by rw [timesD_row h]; omega
    rw [e2]
    exact this
theorem range_three (a b : Nat) (f : Nat → Int) : (List.range (a + (1 + b))).map f = (List.range a).map f ++ [f a] ++ (List.range b).map fun i => f (a + (1 + i)) := by
  rw [List.range_add, List.map_append, List.range_add, List.map_append, List.map_append, List.map_map, List.map_map, List.map_map, List.append_assoc]
  rfl
theorem tms_plan : ∀ n s : Int, 1 ≤ n → 1 ≤ s → Tms ((List.range (n - 1).toNat).map fun (i : Nat) => timesD n s (i : Int)) n s := by
  refine plan_ind (fun n s hn hs h => tms_row hn hs h) fun n s hn hs ih1 ih2 => ?_
  obtain ⟨l1, l2, l3⟩ := loz_range hn hs
  have t := Tms.split (by omega) (by omega) l3 (hiz_best hn hs) ih2 ih1
  have e1 : (n - 1).toNat = (hiz n s - 1).toNat + (1 + (n - hiz n s - 1).toNat) := by omega
  rw [e1, range_three]
  have a1 : ((List.range (hiz n s - 1).toNat).map fun (i : Nat) => timesD n s (i : Int)) = ((List.range (hiz n s - 1).toNat).map fun (i : Nat) => timesD (hiz n s) s (i : Int)).map (· + 1) := by
    rw [List.map_map]
    refine List.map_congr_left fun i hi => ?_
    have hi := List.mem_range.mp hi
    show timesD n s (i : Int) = timesD (hiz n s) s (i : Int) + 1
    rw [timesD_two hn hs, if_neg (by omega), if_neg (by omega)]
    omega
  have a2 : timesD n s ((hiz n s - 1).toNat : Nat) = 1 := by
    rw [timesD_two hn hs, if_neg (by omega), if_pos (by omega)]
    rfl
  have a3 : ((List.range (n - hiz n s - 1).toNat).map fun (i : Nat) => timesD n s (((hiz n s - 1).toNat + (1 + i) : Nat) : Int)) = (List.range (n - hiz n s - 1).toNat).map fun (i : Nat) => timesD (n - hiz n s) (s - 1) (i : Int) := by
    refine List.map_congr_left fun i hi => ?_
    rw [timesD_two hn hs, if_pos (by omega)]
    congr 1
    omega
  rw [a1, a2, a3]
  exact t
theorem sum_map_add (l : List Int) : (l.map (· + 1)).sum = l.sum + l.length := by
  induction l with
  | nil => rfl
  | cons a l ih => rw [List.map_cons, List.sum_cons, List.sum_cons, ih, List.length_cons]; omega
theorem sum_tri : ∀ k : Nat, ((List.range k).map fun (i : Nat) => (k : Int) - (i : Int)).sum = tri k
  | 0 => rfl
  | k + 1 => by
    rw [List.range_succ_eq_map, List.map_cons, List.sum_cons, List.map_map]
    have e : ((List.range k).map ((fun (i : Nat) => ((k + 1 : Nat) : Int) - (i : Int)) ∘ Nat.succ)) = (List.range k).map fun (i : Nat) => (k : Int) - (i : Int) := List.map_congr_left fun i _ => by
      show ((k + 1 : Nat) : Int) - ((i + 1 : Nat) : Int) = _
      omega
    rw [e, sum_tri k]
    show ((k + 1 : Nat) : Int) - ((0 : Nat) : Int) + tri k = ((k + 1 : Nat) : Int) + tri k
    omega
theorem sum_plan : ∀ n s : Int, 1 ≤ n → 1 ≤ s → ((List.range (n - 1).toNat).map fun (i : Nat) => timesD n s (i : Int)).sum = tz n s := by
  refine plan_ind (fun n s hn hs h => ?_) fun n s hn hs ih1 ih2 => ?_
  · rw [← tri_tz hn hs h, ← sum_tri]
    congr 1
    exact List.map_congr_left fun i hi => by
      have := List.mem_range.mp hi
      rw [timesD_row h]
      omega
  · obtain ⟨l1, l2, l3⟩ := loz_range hn hs
    have bs := best_sum hn hs
    rw [show (n - 1).toNat = (hiz n s - 1).toNat + (1 + (n - hiz n s - 1).toNat) by omega, range_three]
    have a1 : ((List.range (hiz n s - 1).toNat).map fun (i : Nat) => timesD n s (i : Int)) = ((List.range (hiz n s - 1).toNat).map fun (i : Nat) => timesD (hiz n s) s (i : Int)).map (· + 1) := by
      rw [List.map_map]
      refine List.map_congr_left fun i hi => ?_
      have hi := List.mem_range.mp hi
      show timesD n s (i : Int) = timesD (hiz n s) s (i : Int) + 1
      rw [timesD_two hn hs, if_neg (by omega), if_neg (by omega)]
      omega
    have a2 : timesD n s ((hiz n s - 1).toNat : Nat) = 1 := by
      rw [timesD_two hn hs, if_neg (by omega), if_pos (by omega)]
      rfl
    have a3 : ((List.range (n - hiz n s - 1).toNat).map fun (i : Nat) => timesD n s (((hiz n s - 1).toNat + (1 + i) : Nat) : Int)) = (List.range (n - hiz n s - 1).toNat).map fun (i : Nat) => timesD (n - hiz n s) (s - 1) (i : Int) := by
      refine List.map_congr_left fun i hi => ?_
      rw [timesD_two hn hs, if_pos (by omega)]
      congr 1
      omega
    rw [a1, a2, a3, List.sum_append, List.sum_append, sum_map_add, ih1, ih2, List.length_map, List.length_range, List.sum_cons, List.sum_nil]
    omega
abbrev tmL (n s : Int) : List Int := (List.range (n - 1).toNat).map fun (i : Nat) => timesD n s (i : Int)
/-- the distinct times ascend from one to the rounds -/
theorem out_is {n s : Int} (hn : 1 ≤ n) (hs : 1 ≤ s) {out : List Int} (h1 : out.Pairwise (· < ·)) (h2 : ∀ k, k ∈ out ↔ k ∈ tmL n s) : out.map (fun t => (t, ((tmL n s).count t : Int))) = stL n s (rho n s).toNat := by
  have tm := tms_plan n s hn hs
  have r0 := rho_nonneg n s
  have e : out = (List.range (rho n s).toNat).map fun (i : Nat) => (i : Int) + 1 := by
    refine List.Perm.eq_of_pairwise (le := (· < ·)) (fun a b _ _ h h' => by omega) h1 ?_ ?_
    · rw [List.pairwise_map]
      exact List.Pairwise.imp (R := (· < ·)) (fun {a b} h => by omega) List.pairwise_lt_range
    · refine (List.perm_ext_iff_of_nodup (List.Pairwise.imp (fun {a b} h => by omega) h1) ?_).mpr fun k => ?_
      · unfold List.Nodup
        rw [List.pairwise_map]
        exact List.Pairwise.imp (R := (· < ·)) (fun {a b} h => by omega) List.pairwise_lt_range
      · rw [h2]
        constructor
        · intro h
          have h3 := (tm.1 k h).1
          have c : ((tmL n s).count k : Int) = manyT n s k := tm.count hn hs h3
          have := List.count_pos_iff.mpr h
          have := (manyT_pos hn hs h3).mp (by omega)
          exact List.mem_map.mpr ⟨(k - 1).toNat, List.mem_range.mpr (by omega), by omega⟩
        · intro h
          obtain ⟨i, hi, rfl⟩ := List.mem_map.mp h
          have hi := List.mem_range.mp hi
          have c : ((tmL n s).count ((i : Int) + 1) : Int) = manyT n s ((i : Int) + 1) := tm.count hn hs (by omega)
          have := (manyT_pos (n := n) (s := s) (t := (i : Int) + 1) hn hs (by omega)).mpr (by omega)
          exact List.count_pos_iff.mp (by omega)
  rw [e, List.map_map]
  unfold stL
  refine List.map_congr_left fun i _ => ?_
  show ((i : Int) + 1, ((tmL n s).count ((i : Int) + 1) : Int)) = _
  rw [tm.count hn hs (by omega)]
def sp_L_deep (K : PySem.W.Frag) : Sp := sp1 fun x H Q _ => ∃ (r : Addr), x = .ref r ∧ Bag H r ∧ ∀ (n s : Int) p H', PB n s → 2 ≤ n → 2 ≤ s → Mo r H H' → Bag H' r → H p = none → p ≠ r → H' p = some (.tup [.int n, .int s]) → Q (.ref p) H'
theorem sc_L_deep : FnScope ["_law_bag_here", "_law_slots", "_law_times", "_law_most", "_law_length"] ["_law_bag_here"] (defScope s_L_deep) := ⟨rfl, rfl, rfl, by decide +kernel, rfl, by decide +kernel, by decide +kernel⟩
theorem ok_L_deep (T : Txt P w K mg base) : FnOk P w K mg base (L2.CX P w) 2 T.a_L_deep T.fd_L_deep ["_law_bag_here"] (sp_L_deep K) := by
  refine FunD.ok T.F_L_deep sc_L_deep (fun vs H Q E h => ar1 h) (fun cdv A fr s H vs Q E hr h => ⟨_, PSs.nox (Evl.pss_cut (ps_set (i := 1) sc_L_deep.nd rfl (.inl rfl) (pe_op op_add pe_int (pe_call (ok_L_pick T) hr (by rfl) T.g_L_pick T.F_L_pick.kp T.b_L_pick .nil passL (pa_cons (pv 0) (pa_cons (pe_ix ix_listT (pe_lst (pa_cons pe_int (pa_cons pe_int pa_nil))) (pe_call (ok_L_pick T) hr (by rfl) T.g_L_pick T.F_L_pick.kp T.b_L_pick .nil passL (pa_cons (pv 0) (pa_cons pe_int pa_nil))) (fun _ _ => rfl)) pa_nil))))) (Evl.pss_cut (ps_set (i := 2) sc_L_deep.nd rfl (.inl rfl) (pe_op op_add pe_int (pe_call (ok_L_pick T) hr (by rfl) T.g_L_pick T.F_L_pick.kp T.b_L_pick .nil passL (pa_cons (pv 0) (pa_cons (pe_ix ix_listT (pe_lst (pa_cons pe_int (pa_cons pe_int (pa_cons pe_int pa_nil)))) (pe_call (ok_L_pick T) hr (by rfl) T.g_L_pick T.F_L_pick.kp T.b_L_pick .nil passL (pa_cons (pv 0) (pa_cons pe_int pa_nil))) (fun _ _ => rfl)) pa_nil))))) (Evl.pss_cut (ps_set (i := 3) sc_L_deep.nd rfl (.inl rfl) (pe_callB (call_min2 rfl) (by rfl) T.n_min (by decide +kernel) (pa_cons (pe_op op_powC pe_int pe_int) (pa_cons (pe_call (ok_L_reach T) hr (by rfl) T.g_L_reach T.F_L_reach.kp T.b_L_reach .nil passL (pa_cons (pv 1) (pa_cons (pv 2) pa_nil))) pa_nil)))) (Evl.pss_cut (ps_set (i := 4) sc_L_deep.nd rfl (.inl rfl) (pe_ix ix_listT (pe_lst (pa_cons (pe_op op_add pe_int (pe_call (ok_L_pick T) hr (by rfl) T.g_L_pick T.F_L_pick.kp T.b_L_pick .nil passL (pa_cons (pv 0) (pa_cons (pv 3) pa_nil)))) (pa_cons (pv 3) (pa_cons (pe_op op_sub (pv 3) pe_int) (pa_cons (pe_op op_add (pe_op op_divB (pv 3) pe_int) pe_int) pa_nil))))) (pe_call (ok_L_pick T) hr (by rfl) T.g_L_pick T.F_L_pick.kp T.b_L_pick .nil passL (pa_cons (pv 0) (pa_cons pe_int pa_nil))) (fun _ _ => rfl))) (pss_one (ps_ret (pe_tup (pa_cons (pe_callB (call_max2 rfl) (by rfl) T.n_max (by decide +kernel) (pa_cons pe_int (pa_cons (pv 4) pa_nil))) (pa_cons (pv 1) pa_nil))))))))), ?_⟩)
  obtain ⟨_, rfl, r, rfl, hR, q⟩ := h
  refine Evl.q_cut (M := fun σ' H' => ∃ s : Int, σ' = [some (.ref r), some (.int s), none, none, none] ∧ Mo r H H' ∧ Bag H' r ∧ 2 ≤ s ∧ s ≤ 100) ?_ ?_
  · unfold sp_L_pick
    walk_at "rd"
    intro p hp
    have np := hR.ne hp
    refine ⟨hR.ex (exn hp), fun z H1 z0 z1 o1 R1 => ?_⟩
    have hx : ∃ x : Int, atI [V.int 6, V.int 99] z = some (.int x) ∧ 1 ≤ x ∧ x ≤ 99 := by
      rcases (by omega : z = 0 ∨ z = 1) with rfl | rfl
      · exact ⟨6, atI_0, by decide, by decide⟩
      · exact ⟨99, atI_1, by decide, by decide⟩
    obtain ⟨x, hx, x1, x2⟩ := hx
    refine ⟨_, o1 p _ np upd_same, _, hx, _, rfl, R1, x1, by omega, fun y H2 y0 y1 o2 R2 => ⟨(Ex.to_mo (exn hp) o1).trans o2, R2, by omega, by omega⟩⟩
  rintro σ H2 ⟨s, rfl, o2, R2, s1, s2⟩
  refine Evl.q_cut (M := fun σ' H' => ∃ t : Int, σ' = [some (.ref r), some (.int s), some (.int t), none, none] ∧ Mo r H H' ∧ Bag H' r ∧ 1 ≤ t ∧ t ≤ 120) ?_ ?_
  · unfold sp_L_pick
    walk_at "rd"
    intro p hp
    have np := R2.ne hp
    refine ⟨R2.ex (exn hp), fun z H3 z0 z1 o3 R3 => ?_⟩
    have hx : ∃ x : Int, atI [V.int 5, V.int 40, V.int 120] z = some (.int x) ∧ 1 ≤ x ∧ x ≤ 120 := by
      rcases (by omega : z = 0 ∨ z = 1 ∨ z = 2) with rfl | rfl | rfl
      · exact ⟨_, atI_0, by decide, by decide⟩
      · exact ⟨_, atI_1, by decide, by decide⟩
      · exact ⟨_, atI_2, by decide, by decide⟩
    obtain ⟨x, hx, x1, x2⟩ := hx
    refine ⟨_, o3 p _ np upd_same, _, hx, _, rfl, R3, x1, by omega, fun y H4 y0 y1 o4 R4 => ⟨(o2.trans (Ex.to_mo (exn hp) o3)).trans o4, R4, by omega, by omega⟩⟩
  rintro σ H3 ⟨t, rfl, o3, R3, t1, t2⟩
  have g := Rz_gt (s := s) (r := t) (by omega) (by omega)
  refine Evl.q_cut (M := fun σ' H' => ∃ m : Int, σ' = [some (.ref r), some (.int s), some (.int t), some (.int m), none] ∧ H3 = H' ∧ 2 ≤ m ∧ m ≤ Rz s t ∧ m ≤ 10 ^ 30) ?_ ?_
  · unfold sp_L_reach
    walk_at "rd"
    refine ⟨by omega, by omega, by omega, by omega, ?_⟩
    split <;> omega
  rintro σ _ ⟨m, rfl, rfl, m1, m2, m3⟩
  refine Evl.q_cut (M := fun σ' H' => ∃ n : Int, σ' = [some (.ref r), some (.int s), some (.int t), some (.int m), some (.int n)] ∧ Mo r H H' ∧ Bag H' r ∧ n ≤ m) ?_ ?_
  · unfold sp_L_pick
    walk_at "rd"
    refine ⟨R3, by omega, by omega, fun z H4 z0 z1 o4 R4 => ⟨by unfold CDivB; omega, fun p hp => ?_⟩⟩
    have np := R4.ne hp
    refine ⟨R4.ex (exn hp), fun y H5 y0 y1 o5 R5 => ?_⟩
    have hx : ∃ x : Int, atI [V.int (1 + z), V.int m, V.int (m - 1), V.int (m / 2 + 1)] y = some (.int x) ∧ x ≤ m := by
      rcases (by omega : y = 0 ∨ y = 1 ∨ y = 2 ∨ y = 3) with rfl | rfl | rfl | rfl
      · exact ⟨_, atI_0, by omega⟩
      · exact ⟨_, atI_1, by omega⟩
      · exact ⟨_, atI_2, by omega⟩
      · exact ⟨_, atI_3, by omega⟩
    obtain ⟨x, hx, x1⟩ := hx
    refine ⟨_, o5 p _ np upd_same, _, hx, x, rfl, (o3.trans o4).trans (Ex.to_mo (exn hp) o5), R5, x1⟩
  rintro σ H5 ⟨n, rfl, o5, R5, n1⟩
  walk_at "rd"
  intro p hp
  have np := R5.ne hp
  have pb : ∀ k : Int, 2 ≤ k → k ≤ m → PB k s := fun k k1 k2 => ⟨by omega, by omega, by omega, s2, by
    have := (rho_le (n := k) (s := s) (r := t) (by omega) (by omega) (by omega)).mpr (by omega)
    omega⟩
  refine q _ s p _ (pb _ ?_ ?_) ?_ s1 (o5.trans (Mo.ex (exn hp))) (R5.ex (exn hp)) (bag_none o5 R5 hp) np upd_same
  · split <;> omega
  · split <;> omega
  · split <;> omega
def sp_L_step_right (K : PySem.W.Frag) : Sp := sp3 fun x y z H Q _ => ∃ (r : Addr) (n s : Int), x = .ref r ∧ y = .int n ∧ z = .int s ∧ Bag H r ∧ PB n s ∧ 2 ≤ n ∧ ∀ H', Mo r H H' → Bag H' r → Q (.bl true) H'
theorem sc_L_step_right : FnScope ["_law_bag_here", "_law_length", "_law_slots", "_law_step", "_law_many", "_law_before", "_law_number", "_law_at", "_law_hand", "_law_operation"] ["_law_bag_here", "_law_length", "_law_slots"] (defScope s_L_step_right) := ⟨rfl, rfl, rfl, by decide +kernel, rfl, by decide +kernel, by decide +kernel⟩
theorem ok_L_step_right (T : Txt P w K mg base) : FnOk P w K mg base (L2.CX P w) 8 T.a_L_step_right T.fd_L_step_right ["_law_bag_here", "_law_length", "_law_slots"] (sp_L_step_right K) := by
  refine FunD.ok T.F_L_step_right sc_L_step_right (fun vs H Q E h => ar3 h) (fun cdv A fr s H vs Q E hr h => ⟨_, PSs.nox (Evl.pss_cut (ps_set (i := 3) sc_L_step_right.nd rfl (.inl rfl) (pe_call (ok_L_pick T) (hr.mono (by decide)) (by rfl) T.g_L_pick T.F_L_pick.kp T.b_L_pick .nil passL (pa_cons (pv 0) (pa_cons (pe_op op_sub (pv 1) pe_int) pa_nil)))) (Evl.pss_cut (ps_set (i := 4) sc_L_step_right.nd rfl (.inl rfl) (pe_call (ok_times_done T) hr (by rfl) T.g_times_done T.F_times_done.kp T.b_times_done .nil passL (pa_cons (pv 1) (pa_cons (pv 2) (pa_cons (pv 3) pa_nil))))) (Evl.pss_cut (ps_if (PW.pt (pw_or (pt_cmpR op_lt (pv 4) pe_int (nomark _)) (pw_or (pt_cmpR op_notN (pe_call (ok_go_at T) hr (by rfl) T.g_go_at T.F_go_at.kp T.b_go_at .nil passL (pa_cons (pv 1) (pa_cons (pv 2) (pa_cons (pv 3) (pa_cons (pv 4) pa_nil))))) pe_non (nomark _)) (pw_or1 (pt_cmpR op_gt (pv 4) (pe_ix ix_tupT (pe_call (ok_most_repeated T) (hr.mono (by decide)) (by rfl) T.g_most_repeated T.F_most_repeated.kp T.b_most_repeated .nil passL (pa_cons (pv 1) (pa_cons (pv 2) pa_nil))) pe_int (fun _ _ => rfl)) (nomark _)))))) (pss_one (ps_ret pe_bl)) pss_nil) (Evl.pss_cut (ps_set (i := 5) sc_L_step_right.nd rfl (.inl rfl) (pe_un un_neg pe_int)) (Evl.pss_cut (ps_for PassesOwn.never rfl (pi_list (pe_sortSet rfl (pe_lst (pa_cons pe_int (pa_cons (pe_op op_sub (pv 4) pe_int) (pa_cons (pe_call (ok_L_pick T) (hr.mono (by decide)) (by rfl) T.g_L_pick T.F_L_pick.kp T.b_L_pick .nil passL (pa_cons (pv 0) (pa_cons (pv 4) pa_nil))) pa_nil)))) (by rfl) T.n_sorted (by decide +kernel) (by rfl) T.n_set (by decide +kernel))) (pg_name (i := 6) sc_L_step_right.nd rfl (.inl rfl)) (pss_cons (ps_set (i := 7) sc_L_step_right.nd rfl (.inl rfl) (pe_call (ok_go_at T) hr (by rfl) T.g_go_at T.F_go_at.kp T.b_go_at .nil passL (pa_cons (pv 1) (pa_cons (pv 2) (pa_cons (pv 3) (pa_cons (pv 6) pa_nil)))))) (pss_cons (ps_set (i := 8) sc_L_step_right.nd rfl (.inl rfl) (pe_ix ix_tupT (pe_call (ok_moment T) (hr.mono (by decide)) (by rfl) T.g_moment T.F_moment.kp T.b_moment .nil passL (pa_cons (pv 1) (pa_cons (pv 2) (pa_cons (pv 7) pa_nil)))) pe_int (fun _ _ => rfl))) (pss_cons (ps_set (i := 9) sc_L_step_right.nd rfl (.inl rfl) (pe_call (ok_operation_at T) (hr.mono (by decide)) (by rfl) T.g_operation_at T.F_operation_at.kp T.b_operation_at .nil passL (pa_cons (pv 1) (pa_cons (pv 2) (pa_cons (pv 7) pa_nil))))) (pss_cons (ps_if (PW.pt (pw_or (pt_cmpR op_ne (pe_ix ix_tupT (pv 9) pe_int (fun _ _ => rfl)) pe_str (nomark _)) (pw_or (pt_not (pt_chain op_le op_lt (pv 8) (pv 3) (pe_op op_add (pv 8) (pe_ix ix_tupT (pv 9) pe_int (fun _ _ => rfl))))) (pw_or1 (pt_cmpR op_le (pv 7) (pv 5) (nomark _)))))) (pss_one (ps_ret pe_bl)) pss_nil) (pss_one (ps_set (i := 5) sc_L_step_right.nd rfl (.inl rfl) (pv 7)))))))) (pss_one (ps_ret (pe_cmpR op_lt (pv 5) (pe_call (ok_back_at T) (hr.mono (by decide)) (by rfl) T.g_back_at T.F_back_at.kp T.b_back_at .nil passL (pa_cons (pv 1) (pa_cons (pv 2) (pa_cons (pv 3) pa_nil)))) (nomark _))))))))), ?_⟩)
  obtain ⟨_, _, _, rfl, r, n, s, rfl, rfl, rfl, hR, hb, n2, q⟩ := h
  have n1 := hb.1
  have s1 := hb.2.2.1
  refine Evl.q_cut (M := fun σ' H' => ∃ x : Int, σ' = [some (.ref r), some (.int n), some (.int s), some (.int x), none, none, none, none, none, none] ∧ Mo r H H' ∧ Bag H' r ∧ 0 ≤ x ∧ x < n - 1) ?_ ?_
  · unfold sp_L_pick
    walk_at "rd"
    exact ⟨hR, by omega, by have := hb.2.1; omega, fun z H' z0 z1 o R => ⟨o, R, z0, z1⟩⟩
  rintro σ H1 ⟨x, rfl, o1, R1, x0, x1⟩
  have ti := times_in n s n1 s1 x x0 x1
  have rr := hb.2.2.2.2
  refine Evl.q_cut (M := fun σ' H' => σ' = [some (.ref r), some (.int n), some (.int s), some (.int x), some (.int (timesD n s x)), none, none, none, none, none] ∧ Ex H1 H') ?_ ?_
  · unfold sp_times_done
    walk_at "rd"
    exact ⟨hb, x0, x1, fun H' e => e⟩
  rintro σ H2 ⟨rfl, e2⟩
  refine Evl.q_cut (M := fun σ' H' => σ' = [some (.ref r), some (.int n), some (.int s), some (.int x), some (.int (timesD n s x)), none, none, none, none, none] ∧ Ex H1 H') ?_ ?_
  · unfold sp_go_at sp_most_repeated
    walk_at "rd"
    refine iteNo (by omega) ⟨hb, x0, x1, by omega, by omega, fun H' e => ?_⟩
    rw [go_none n1 s1 x0 x1]
    exact iteNo (fun z => z rfl) ⟨hb, fun z => by omega, fun _ p H' _ e' hp => ⟨_, hp, _, atI_0, _, rfl, iteNo (by omega) ((e2.trans e).trans e')⟩⟩
  rintro σ H3 ⟨rfl, e3⟩
  refine Evl.q_cut (M := fun σ' H' => σ' = [some (.ref r), some (.int n), some (.int s), some (.int x), some (.int (timesD n s x)), some (.int (-1)), none, none, none, none] ∧ H3 = H') ?_ ?_
  · walk_at "rd"
  rintro σ _ ⟨rfl, rfl⟩
  refine Evl.q_cut (M := fun σ' H' => ∃ b : Int, ∃ a1 a2 a3 a4, σ' = [some (.ref r), some (.int n), some (.int s), some (.int x), some (.int (timesD n s x)), some (.int b), a1, a2, a3, a4] ∧ Mo r H1 H' ∧ Bag H' r ∧ b < backAt n s x) ?_ ?_
  · unfold sp_L_pick
    simp only [tFor_lst, tSortSet]
    walk_at "rd"
    refine ⟨R1.ex e3, ti.1, by omega, fun z H5 z0 z1 o5 R5 p hp => ⟨[0, timesD n s x - 1, z], sq_l upd_same, by simp, fun out p1 up mem hp1 => ?_⟩⟩
    have bnd : ∀ k ∈ out, 0 ≤ k ∧ k < timesD n s x := fun k hk => by
      have := (mem k).mp hk
      simp only [List.mem_cons, List.not_mem_nil, or_false] at this
      omega
    have eZ := (exn (o := .lst [V.int 0, V.int (timesD n s x - 1), V.int z]) hp).trans (exn (o := .lst (out.map V.int)) hp1)
    have hZ := upd_same (H := upd H5 p (.lst [V.int 0, V.int (timesD n s x - 1), V.int z])) (a := p1) (o := .lst (out.map V.int))
    generalize upd (upd H5 p (.lst [V.int 0, V.int (timesD n s x - 1), V.int z])) p1 (.lst (out.map V.int)) = HZ at *
    refine forL_in (xs := out.map V.int) (sq_l hZ) (fun i σ' H' => ∃ b : Int, ∃ a1 a2 a3 a4, σ' = [some (.ref r), some (.int n), some (.int s), some (.int x), some (.int (timesD n s x)), some (.int b), a1, a2, a3, a4] ∧ Ex HZ H' ∧ (i = 0 ∧ b = -1 ∨ ∃ j k, i = j + 1 ∧ out[j]? = some k ∧ goAt n s x k = some b))
      ⟨-1, none, none, none, none, rfl, .refl _, .inl ⟨rfl, rfl⟩⟩ (fun i σ' H' _ ⟨b, a1, a2, a3, a4, _, e, _⟩ => sq_l (e _ _ hZ)) ?_ ?_
    · rintro σ' H' ⟨b, a1, a2, a3, a4, rfl, e, hv⟩
      refine ⟨b, a1, a2, a3, a4, rfl, (Mo.ex e3).trans (o5.trans (Mo.ex (eZ.trans e))), (R5.ex eZ).ex e, ?_⟩
      rcases hv with ⟨_, rfl⟩ | ⟨j, k, _, hk, hg⟩
      · have := (back_in n1 s1 x0 (show x < n by omega)).1
        omega
      · obtain ⟨k', rfl⟩ := Int.eq_ofNat_of_zero_le (bnd k (List.mem_of_getElem? hk)).1
        exact go_last n1 s1 x0 x1 hg
    · rintro i v σ' H' hx ⟨b, a1, a2, a3, a4, rfl, e, hv⟩
      rw [List.getElem?_map] at hx
      obtain ⟨k, hk, rfl⟩ := Option.map_eq_some_iff.mp hx
      have bk := bnd k (List.mem_of_getElem? hk)
      obtain ⟨k', rfl⟩ := Int.eq_ofNat_of_zero_le bk.1
      obtain ⟨v, hv2⟩ := go_some n1 s1 x0 x1 bk.2
      obtain ⟨v0, v1, m, om, w1, w2⟩ := go_facts n1 s1 x0 x1 hv2
      unfold sp_go_at sp_moment sp_operation_at
      walk_at "rd"
      refine ⟨hb, x0, x1, by omega, by omega, fun H6 e6 => ?_⟩
      rw [hv2]
      refine ⟨v, rfl, hb, v0, by omega, fun p2 H7 e7 hp2 ⟨q2, _, h4, _⟩ => ⟨_, h4, _, atI_0, v, rfl, hb, v0, v1, fun p3 H8 hp3 e8 h8 => ?_⟩⟩
      rw [om] at h8
      have hlb : b < v := by
        rcases hv with ⟨_, rfl⟩ | ⟨j, k2, rfl, hk2, hg⟩
        · omega
        · have b2 := bnd k2 (List.mem_of_getElem? hk2)
          obtain ⟨k3, rfl⟩ := Int.eq_ofNat_of_zero_le b2.1
          have lt : (k3 : Int) < k' := by
            obtain ⟨l1, e8⟩ := List.getElem?_eq_some_iff.mp hk2
            obtain ⟨l2, e9⟩ := List.getElem?_eq_some_iff.mp hk
            rw [← e8, ← e9]
            exact List.pairwise_iff_getElem.mp up j (j + 1) l1 l2 (by omega)
          exact go_up n1 s1 x0 x1 hg hv2 (by omega)
      exact ⟨_, h8, _, atI_0, rfl, iteNo (fun z => z rfl) ⟨_, rfl, iteY w1 ⟨_, h8, _, atI_1, _, rfl, _, rfl, iteNo (fun z => z w2) ⟨v, rfl, iteNo (by omega) ⟨v, rfl, e.trans ((e6.trans e7).trans e8), i, rfl, _, hk, hv2⟩⟩⟩⟩⟩
  rintro σ H4 ⟨b, a1, a2, a3, a4, rfl, o4, R4, hlt⟩
  unfold sp_back_at
  walk_at "rd"
  refine ⟨hb, x0, by omega, fun H' e => ?_⟩
  rw [decide_eq_true hlt]
  exact q H' ((o1.trans o4).trans (Mo.ex e)) (R4.ex e)
/-! ### small tasks -/
theorem stD_fine {n s : Int} {r : Nat} (h1 : 1 ≤ n) (h2 : n ≤ 10 ^ 30) (hs : 1 ≤ s) (hr : r ≤ 1000) : fine 20 (.list ((stL n s r).map pD)) = true ∧ sz (.list ((stL n s r).map pD)) ≤ 16000000 := by
  have hM := med_200
  have all : ∀ d ∈ (stL n s r).map pD, fine 19 d = true ∧ sz d ≤ 5000 := fun d hd => by
    obtain ⟨⟨t, c⟩, hp, rfl⟩ := List.mem_map.mp hd
    obtain ⟨t1, t2, rfl⟩ := stL_mem.mp hp
    have hm := manyT_le (n := n) (s := s) (t := t) hs t1 h1
    have l1 : t.natAbs.log2 < 1900 := med_log (by omega) (by omega)
    have l2 : (manyT n s t).natAbs.log2 < 1900 := med_log (by omega) (by omega)
    refine ⟨?_, by show 2000 + 2 + (2000 + 2 + 0) + 3 ≤ 5000; decide⟩
    show (decide (t.natAbs.log2 < 1900) && (decide ((manyT n s t).natAbs.log2 < 1900) && true)) = true
    rw [decide_eq_true l1, decide_eq_true l2]
    rfl
  have fa : ∀ {k : Nat} {xs : List PyData}, (∀ x ∈ xs, fine k x = true) → fineAll k xs = true := by
    intro k xs
    induction xs with
    | nil => intro _; rfl
    | cons x xs ih =>
      intro h
      show (fine k x && fineAll k xs) = true
      rw [h x (List.mem_cons_self ..), ih fun y hy => h y (List.mem_cons_of_mem _ hy)]
      rfl
  have sa : ∀ {m : Nat} {xs : List PyData}, (∀ x ∈ xs, sz x ≤ m) → szAll xs ≤ (m + 2) * xs.length := by
    intro m xs
    induction xs with
    | nil => intro _; exact Nat.le_refl _
    | cons x xs ih =>
      intro h
      have a := h x (List.mem_cons_self ..)
      have b := ih fun y hy => h y (List.mem_cons_of_mem _ hy)
      show sz x + 2 + szAll xs ≤ (m + 2) * (xs.length + 1)
      rw [Nat.mul_add, Nat.mul_one]
      omega
  refine ⟨fa fun d hd => (all d hd).1, ?_⟩
  have := sa fun d hd => (all d hd).2
  rw [List.length_map, stL_len] at this
  show szAll _ + 3 ≤ _
  omega
/-- the sorted pairs of the counts are the list of the times -/
theorem srt_is {ps qs : List (Int × Int)} {n s : Int} {r : Nat} (h1 : qs.Perm ps) (h2 : ps.Perm (stL n s r)) (h3 : SrtP qs) : qs = stL n s r := by
  have w2 : SrtP (stL n s r) := by
    unfold SrtP SrtO.Srtd stL
    rw [List.pairwise_map]
    refine List.Pairwise.imp (R := (· < ·)) (fun {a b} h => ?_) List.pairwise_lt_range
    refine SrtO.lexB_no.mpr ?_
    show ¬ ((b : Int) + 1 < (a : Int) + 1 ∨ _)
    rintro (z | ⟨z, _⟩)
    · omega
    · have : (b : Int) + 1 = (a : Int) + 1 := z
      omega
  refine List.Perm.eq_of_pairwise (le := fun a b => SrtO.lexB b a = false) (fun a b _ _ e1 e2 => ?_) h3 w2 (h1.trans h2)
  have a1 := SrtO.lexB_no.mp e1
  have a2 := SrtO.lexB_no.mp e2
  obtain ⟨a, a'⟩ := a
  obtain ⟨b, b'⟩ := b
  simp only at a1 a2
  rw [Prod.mk.injEq]
  omega
theorem paired_rp {H : Hp} {S : Addr → Prop} : ∀ {ts : List Addr} {qs : List (Int × Int)}, Paired (fun (t : Addr) (q : Int × Int) => H t = some (.tup [.int q.1, .int q.2])) ts qs → (∀ t ∈ ts, S t) → RpA H S (ts.map V.ref) (qs.map pD)
  | _, _, .nil, _ => .nil
  | _, _, .cons h r, k => .cons (pD_rp (k _ (List.mem_cons_self ..)) h) (paired_rp r fun t ht => k t (List.mem_cons_of_mem _ ht))
theorem valV_int : ∀ (ps : List (Int × Int)) (t : Int), (valV (intKvs ps) (Sum.inl t : Key)).getD (.int 0) = .int (getC ps t)
  | [], t => rfl
  | p :: r, t => by
    show (valV ((Sum.inl p.1, V.int p.2) :: intKvs r) (Sum.inl t : Key)).getD (.int 0) = _
    unfold getC
    by_cases h : p.1 = t
    · rw [valV_pos (by rw [h]), List.find?_cons_of_pos (by simpa using h)]
      rfl
    · rw [valV_neg (fun z => h (by injection z)), List.find?_cons_of_neg (by simpa using h), valV_int r t]
      rfl
theorem putK_bump : ∀ (ps : List (Int × Int)) (t : Int), (ps.map (·.1)).Nodup → putK (intKvs ps) (Sum.inl t : Key) (.int (getC ps t + 1)) = intKvs (bump ps t)
  | [], t, _ => rfl
  | p :: r, t, hn => by
    rw [List.map_cons, List.nodup_cons] at hn
    have ih := putK_bump r t hn.2
    by_cases h : p.1 = t
    · have g : getC (p :: r) t = p.2 := by
        unfold getC
        rw [List.find?_cons_of_pos (by simpa using h)]
      rw [g]
      unfold bump
      rw [if_pos h]
      unfold putK
      have ha : ((intKvs (p :: r)).any fun kv => decide (kv.1 = (Sum.inl t : Key))) = true := by
        show (decide ((Sum.inl p.1 : Key) = Sum.inl t) || _) = true
        rw [decide_eq_true (by rw [h]), Bool.true_or]
      rw [if_pos ha]
      show (if (Sum.inl p.1 : Key) = Sum.inl t then ((Sum.inl p.1 : Key), V.int (p.2 + 1)) else _) :: _ = (Sum.inl p.1, V.int (p.2 + 1)) :: intKvs r
      rw [if_pos (by rw [h])]
      congr 1
      unfold intKvs
      rw [List.map_map]
      refine List.map_congr_left fun q hq => ?_
      show (if (Sum.inl q.1 : Key) = Sum.inl t then _ else _) = _
      rw [if_neg (fun z => hn.1 ?_)]
      injection z with z
      rw [h, ← z]
      exact List.mem_map.mpr ⟨q, hq, rfl⟩
    · have g : getC (p :: r) t = getC r t := by
        unfold getC
        rw [List.find?_cons_of_neg (by simpa using h)]
      rw [g]
      unfold bump
      rw [if_neg h]
      show _ = (Sum.inl p.1, V.int p.2) :: intKvs (bump r t)
      rw [← ih]
      have ne : ¬ (Sum.inl p.1 : Key) = Sum.inl t := fun z => h (by injection z)
      unfold putK
      have ha : ((intKvs (p :: r)).any fun kv => decide (kv.1 = (Sum.inl t : Key))) = (intKvs r).any fun kv => decide (kv.1 = (Sum.inl t : Key)) := by
        show (decide ((Sum.inl p.1 : Key) = Sum.inl t) || (intKvs r).any fun kv => decide (kv.1 = (Sum.inl t : Key))) = _
        rw [decide_eq_false ne, Bool.false_or]
      rw [ha]
      by_cases hb : ((intKvs r).any fun kv => decide (kv.1 = (Sum.inl t : Key))) = true
      · rw [if_pos hb, if_pos hb]
        show (if (Sum.inl p.1 : Key) = Sum.inl t then _ else (Sum.inl p.1, V.int p.2)) :: _ = _
        rw [if_neg ne]
        rfl
      · rw [if_neg hb, if_neg hb]
        rfl
theorem bump_len (ps : List (Int × Int)) (t : Int) : (bump ps t).length ≤ ps.length + 1 := by
  induction ps with
  | nil => exact Nat.le_refl _
  | cons p r ih =>
    unfold bump
    split
    · simp
    · rw [List.length_cons, List.length_cons]; omega
def sp_L_small_right (K : PySem.W.Frag) : Sp := sp1 fun x H Q _ => ∃ (r : Addr), x = .ref r ∧ Bag H r ∧ ∀ H', Mo r H H' → Bag H' r → Q (.bl true) H'
theorem sc_L_small_right : FnScope ["_law_bag_here", "_law_slots", "_law_length", "_law_times", "_law_due", "_law_step", "_law_many", "_law_some"] ["_law_bag_here"] (defScope s_L_small_right) := ⟨rfl, rfl, rfl, by decide +kernel, rfl, by decide +kernel, by decide +kernel⟩
theorem ok_L_small_right (T : Txt P w K mg base) : FnOk P w K mg base (L2.CX P w) 8 T.a_L_small_right T.fd_L_small_right ["_law_bag_here"] (sp_L_small_right K) := by
  refine FunD.ok T.F_L_small_right sc_L_small_right (fun vs H Q E h => ar1 h) (fun cdv A fr s H vs Q E hr h => ⟨_, PSs.nox (Evl.pss_cut (ps_set (i := 1) sc_L_small_right.nd rfl (.inr rfl) (pe_op op_add pe_int (pe_call (ok_L_pick T) (hr.mono (by decide)) (by rfl) T.g_L_pick T.F_L_pick.kp T.b_L_pick .nil passL (pa_cons (pv 0) (pa_cons pe_int pa_nil))))) (Evl.pss_cut (ps_set (i := 2) sc_L_small_right.nd rfl (.inr rfl) (pe_op op_add pe_int (pe_call (ok_L_pick T) (hr.mono (by decide)) (by rfl) T.g_L_pick T.F_L_pick.kp T.b_L_pick .nil passL (pa_cons (pv 0) (pa_cons (pe_ix ix_listT (pe_lst (pa_cons pe_int (pa_cons pe_int pa_nil))) (pe_callTy call_intB (by rfl) T.n_int (by decide +kernel) (pa_cons (pe_cmpR op_gt (pv 1) pe_int (nomark _)) pa_nil)) (fun _ _ => rfl)) pa_nil))))) (Evl.pss_cut (ps_set (i := 3) sc_L_small_right.nd rfl (.inr rfl) (pe_lc (own := [("_law_step", 5)]) rfl sc_L_small_right.nd (pi_range1 (by rfl) T.n_range (pa_cons (pe_op op_sub (pv 2) pe_int) pa_nil)) (blkOk_by (N := ["_law_bag_here", "_law_slots", "_law_length", "_law_times", "_law_due", "_law_step", "_law_many", "_law_some"]) (sc := defScope s_L_small_right) (by decide +kernel)) (fun _ _ _ _ _ => (pg_name (i := 5) sc_L_small_right.nd rfl (Or.inl rfl))) (fun _ _ _ _ _ => pts_nil) (fun _ _ _ _ _ => (pe_call (ok_times_done T) hr (by rfl) T.g_times_done T.F_times_done.kp T.b_times_done .nil passL (pa_cons (pv 2) (pa_cons (pv 1) (pa_cons (pv 5) pa_nil))))))) (Evl.pss_cut (ps_if (pt_cmpR op_ne (pe_callB (r := rSum K) (cr_sum rfl) (by rfl) T.n_sum (by decide +kernel) (pa_cons (pv 3) pa_nil)) (pe_call (ok_least_steps T) (hr.mono (by decide)) (by rfl) T.g_least_steps T.F_least_steps.kp T.b_least_steps .nil passL (pa_cons (pv 2) (pa_cons (pv 1) pa_nil))) (nomark _)) (pss_one (ps_ret pe_bl)) pss_nil) (Evl.pss_cut (ps_setLc (i := 4) (own := [("_law_many", 6)]) rfl sc_L_small_right.nd rfl rfl (sw_true rfl rfl rfl (by decide +kernel)) (pi_list (pe_sortSet rfl (pv 3) (by rfl) T.n_sorted (by decide +kernel) (by rfl) T.n_set (by decide +kernel))) (blkOk_by (N := ["_law_bag_here", "_law_slots", "_law_length", "_law_times", "_law_due", "_law_step", "_law_many", "_law_some"]) (sc := defScope s_L_small_right) (by decide +kernel)) (fun _ _ _ _ _ => (pg_name (i := 6) sc_L_small_right.nd rfl (Or.inr rfl))) (fun _ _ _ _ _ => pts_nil) (fun _ _ _ _ _ => (by exact (pe_tup (pa_cons (pv 6) (pa_cons (pe_callB (r := rLenQ K) call_lenQ (by rfl) T.n_len (by decide +kernel) (pa_cons (pe_lc (own := [("_law_some", 7)]) rfl sc_L_small_right.nd (pi_listK K rfl (pv 3)) (blkOk_by (N := ["_law_bag_here", "_law_slots", "_law_length", "_law_times", "_law_due", "_law_step", "_law_many", "_law_some"]) (by rfl)) (fun _ _ _ _ _ => (pg_name (i := 7) sc_L_small_right.nd rfl (Or.inl rfl))) (fun _ _ _ _ _ => (pts_one (pt_cmpR op_eq (pv 7) (pv 6) (nomark _)))) (fun _ _ _ _ _ => pe_int)) pa_nil)) pa_nil)))))) (Evl.pss_cut (ps_if (pt_cmpR (r := rNeF K) (op_neF hr) (pv 4) (pe_call (ok_step_times T) (hr.mono (by decide)) (by rfl) T.g_step_times T.F_step_times.kp T.b_step_times .nil passL (pa_cons (pv 2) (pa_cons (pv 1) pa_nil))) (nomark _)) (pss_one (ps_ret pe_bl)) pss_nil) (pss_one (ps_ret (pe_cmpR (r := rEqF K) (op_eqF hr) (pe_call (ok_most_repeated T) (hr.mono (by decide)) (by rfl) T.g_most_repeated T.F_most_repeated.kp T.b_most_repeated .nil passL (pa_cons (pv 2) (pa_cons (pv 1) pa_nil))) (pe_tup (pa_cons (pe_callB (r := rMax K) (cr_max rfl) (by rfl) T.n_max (by decide +kernel) (pa_cons (pv 3) pa_nil)) (pa_cons (pe_bm (r := rIndex K) PySem.F.plainAttrs_list PySem.F.slot_list_index PySem.F.type_list_index mt_index (pv 3) (pa_cons (pe_callB (r := rMax K) (cr_max rfl) (by rfl) T.n_max (by decide +kernel) (pa_cons (pv 3) pa_nil)) pa_nil)) pa_nil))) (nomark _)))))))))), ?_⟩)
  obtain ⟨_, rfl, r, rfl, hR, q⟩ := h
  refine Evl.q_cut (M := fun σ' H' => ∃ s : Int, σ' = [some (.ref r), some (.int s), none, none, none, none, none, none] ∧ Mo r H H' ∧ Bag H' r ∧ 1 ≤ s ∧ s ≤ 6) ?_ ?_
  · unfold sp_L_pick
    walk_at "rd"
    exact ⟨hR, fun z H' z0 z1 o R => ⟨o, R, by omega, by omega⟩⟩
  rintro σ H1 ⟨s, rfl, o1, R1, s1, s2⟩
  refine Evl.q_cut (M := fun σ' H' => ∃ n : Int, σ' = [some (.ref r), some (.int s), some (.int n), none, none, none, none, none] ∧ Mo r H H' ∧ Bag H' r ∧ 2 ≤ n ∧ n ≤ 61) ?_ ?_
  · unfold sp_L_pick
    walk_at "rd"
    intro p hp
    have np := R1.ne hp
    have ht : ∃ k : Int, atI [V.int 20, V.int 60] (if 1 < s then 1 else 0) = some (.int k) ∧ 1 ≤ k ∧ k ≤ 60 ∧ (1 < s ∨ k ≤ 20) := by
      by_cases c : 1 < s
      · rw [if_pos c]; exact ⟨60, atI_1, by decide, by decide, .inl c⟩
      · rw [if_neg c]; exact ⟨20, atI_0, by decide, by decide, .inr (by decide)⟩
    obtain ⟨k, hk, k1, k2, k3⟩ := ht
    exact ⟨_, hk, k, rfl, R1.ex (exn hp), k1, by omega, fun z H' z0 z1 o R => ⟨(o1.trans (Mo.ex (exn hp))).trans o, R, by omega, by omega⟩⟩
  rintro σ H2 ⟨n, rfl, o2, R2, n2, n3⟩
  have rl := rho_lt (n := n) (s := s) (by omega) (by omega)
  have n1 : 1 ≤ n := by omega
  have hb : PB n s := ⟨by omega, by omega, s1, by omega, by omega⟩
  have tm := tms_plan n s n1 s1
  have fs := stD_fine (n := n) (s := s) (r := (rho n s).toNat) (by omega) (by omega) (by omega) (by omega)
  refine Evl.q_cut (M := fun σ' H' => ∃ A, σ' = [some (.ref r), some (.int s), some (.int n), some (.ref A), none, none, none, none] ∧ Ex H2 H' ∧ H2 A = none ∧ H' A = some (.lst ((tmL n s).map V.int))) ?_ ?_
  · unfold sp_times_done
    walk_at "rd"
    refine lc_rng (n := (n - 1).toNat) (fun i => .int (timesD n s (i : Int))) (fun R q => by walk_at "rd"; rw [show (((n - 1).toNat : Nat) : Int) = n - 1 by omega] at q; exact q) (by omega) (fun _ => rfl) (fun i H4 hi e R k => ?_) ?_
    · simp only [wipe]
      walk_at "rd"
      exact ⟨hb, by omega, by omega, fun H' e' => k _ H' e' (.int _)⟩
    · intro v H4 e4 hv
      have hv2 : Rp H4 (New H2) v (.list ((tmL n s).map PyData.int)) := by
        unfold tmL
        rw [List.map_map]
        exact hv
      obtain ⟨A, rfl, nA, hA⟩ := hv2.ints
      exact ⟨A, rfl, e4, nA, hA⟩
  rintro σ H3 ⟨A, rfl, e3, nA, hA⟩
  refine Evl.q_cut (M := fun σ' H' => σ' = [some (.ref r), some (.int s), some (.int n), some (.ref A), none, none, none, none] ∧ Ex H3 H') ?_ ?_
  · unfold sp_least_steps
    walk_at "rd"
    refine ⟨A, _, rfl, sq_l hA, ?_⟩
    rw [sum_plan n s n1 s1]
    exact ⟨n1, by omega, s1, by omega, fun H' e => ⟨rfl, iteNo (fun z => z rfl) e⟩⟩
  rintro σ H4 ⟨rfl, e4⟩
  refine Evl.q_cut (M := fun σ' H' => ∃ v, σ' = [some (.ref r), some (.int s), some (.int n), some (.ref A), some v, none, none, none] ∧ Ex H4 H' ∧ Rp H' (New H4) v (.list ((stL n s (rho n s).toNat).map pD))) ?_ ?_
  · walk_at "rd"
    simp only [tLc_lst, tSortSet]
    walk_at "rd"
    refine ⟨tmL n s, sq_l (e4 _ _ hA), by rw [List.length_map, List.length_range]; omega, fun out p up mem hp => ?_⟩
    have oi := out_is n1 s1 up mem
    have lo := congrArg List.length oi
    rw [List.length_map, stL_len] at lo
    refine lcL_g (xs := out.map V.int) (sq_l upd_same) (fun _ => true) (fun j => pD (out.getD j 0, ((tmL n s).count (out.getD j 0) : Int))) (by rw [List.length_map]; omega) ?_ ?_
    · intro j x H7 hx e7 R Rt _ k2
      rw [List.getElem?_map] at hx
      obtain ⟨t, ht, rfl⟩ := Option.map_eq_some_iff.mp hx
      have gd : out.getD j 0 = t := by rw [List.getD_eq_getElem?_getD, ht]; rfl
      rw [gd] at k2
      have hA7 := e7 _ _ (exn hp _ _ (e4 _ _ hA))
      simp only [wipe]
      walk_at "rd"
      unfold tYes
      refine iteY rfl ?_
      simp only [tLc_lst]
      walk_at "rd"
      refine lcL_g (xs := (tmL n s).map V.int) (sq_l hA7) (fun i => decide ((tmL n s).getD i 0 = t)) (fun _ => .int 1) (by rw [List.length_map, List.length_map, List.length_range]; omega) ?_ ?_
      · intro i x H8 hx e8 R8 Rt8 k8 k9
        rw [List.getElem?_map] at hx
        obtain ⟨u, hu, rfl⟩ := Option.map_eq_some_iff.mp hx
        have gu : (tmL n s).getD i 0 = u := by rw [List.getD_eq_getElem?_getD, hu]; rfl
        rw [gu] at k8 k9
        simp only [wipe]
        walk_at "rd"
        by_cases c : u = t
        · rw [if_pos c]
          exact k9 (decide_eq_true c) _ H8 (.refl _) (.int 1)
        · rw [if_neg c]
          exact k8 (decide_eq_false c) H8 (.refl _)
      · intro v8 H8 e8 hv8
        rw [List.length_map] at hv8
        have hv9 : Rp H8 (New H7) v8 (.list ((((List.range (tmL n s).length).filter fun i => decide ((tmL n s).getD i 0 = t)).map fun _ => (1 : Int)).map PyData.int)) := by rw [List.map_map]; exact hv8
        obtain ⟨B, rfl, nB, hB⟩ := hv9.ints
        have cnt : ((List.range (tmL n s).length).filter fun i => decide ((tmL n s).getD i 0 = t)).length = (tmL n s).count t := by
          have := congrArg List.length (range_filter_map (fun x => decide (x = t)) (tmL n s))
          rw [List.length_map] at this
          rw [this, ← List.countP_eq_length_filter]
          exact List.countP_congr fun x _ => by simp
        refine ⟨B, rfl, _, .inl (sq_l hB), fun p8 hp8 => k2 rfl _ _ (e8.trans (exn hp8)) ?_⟩
        rw [List.length_map, List.length_map, cnt]
        exact pD_rp (Evl.fresh_back e8 hp8) upd_same
    · intro v H7 e7 hv
      rw [List.filter_eq_self.mpr (fun _ _ => rfl), List.length_map] at hv
      have e9 : ((List.range out.length).map fun j => pD (out.getD j 0, ((tmL n s).count (out.getD j 0) : Int))) = (stL n s (rho n s).toNat).map pD := by
        rw [← oi, List.map_map]
        refine List.ext_getElem? fun j => ?_
        rw [List.getElem?_map, List.getElem?_map]
        by_cases hj : j < out.length
        · rw [List.getElem?_range hj, List.getElem?_eq_getElem hj]
          have gd : out.getD j 0 = out[j] := by rw [List.getD_eq_getElem?_getD, List.getElem?_eq_getElem hj]; rfl
          show some (pD (out.getD j 0, ((tmL n s).count (out.getD j 0) : Int))) = some (pD (out[j], ((tmL n s).count out[j] : Int)))
          rw [gd]
        · rw [List.getElem?_eq_none (by rw [List.length_range]; omega), List.getElem?_eq_none (by omega)]
          rfl
      rw [e9] at hv
      exact ⟨(exn hp).trans e7, hv.sub fun b h => Evl.fresh_back (exn hp) h⟩
  rintro σ H5 ⟨v, rfl, e5, hv⟩
  refine Evl.q_cut (M := fun σ' H' => σ' = [some (.ref r), some (.int s), some (.int n), some (.ref A), some v, none, none, none] ∧ Ex H5 H') ?_ ?_
  · unfold sp_step_times
    walk_at "rd"
    refine ⟨n1, by omega, s1, by omega, fun _ v2 H7 e7 hv2 => ⟨_, (hv.ex e7).dp, _, hv2.dp, fs.1, fs.1, ?_⟩, fun z => by omega⟩
    rw [eqv_same fs.1]
    exact iteNo (by decide) e7
  rintro σ H6 ⟨rfl, e6⟩
  unfold sp_most_repeated
  walk_at "rd"
  have mi := most_is n s n1 s1 n2 0
  rw [Int.sub_zero] at mi
  obtain ⟨i0, i1, i2, i3⟩ := mi
  generalize mostAt n s 0 = k at *
  have at_ : ∀ x : Int, 0 ≤ x → x < n - 1 → (tmL n s)[x.toNat]? = some (timesD n s x) := fun x x0 x1 => by
    unfold tmL
    rw [List.getElem?_map, List.getElem?_range (by omega)]
    show some (timesD n s (x.toNat : Nat)) = _
    rw [show ((x.toNat : Nat) : Int) = x by omega]
  have big : ∀ t ∈ tmL n s, t ≤ rho n s := fun t ht => by
    obtain ⟨i, hi, rfl⟩ := List.mem_map.mp ht
    have hi := List.mem_range.mp hi
    exact (times_in n s n1 s1 (i : Int) (by omega) (by omega)).2
  have top : rho n s ∈ tmL n s := by
    rw [← i2]
    exact List.mem_of_getElem? (at_ k i0 i1)
  have hl : 0 < (tmL n s).length := List.length_pos_of_mem top
  refine ⟨hb, fun z => by omega, fun _ p H' _ e' hp => ⟨tmL n s, sq_l (e' _ _ (e6 _ _ (e5 _ _ (e4 _ _ hA)))), hl, fun m hm hmx => ⟨⟨_, sq_l (e' _ _ (e6 _ _ (e5 _ _ (e4 _ _ hA))))⟩, tmL n s, sq_l (e' _ _ (e6 _ _ (e5 _ _ (e4 _ _ hA)))), hl, fun m2 hm2 hmx2 => ?_⟩⟩⟩
  obtain rfl : m = rho n s := by have := big m hm; have := hmx _ top; omega
  obtain rfl : m2 = rho n s := by have := big m2 hm2; have := hmx2 _ top; omega
  refine ⟨A, (tmL n s).map V.int, .int (rho n s), k.toNat, .int (rho n s), rfl, rfl, sq_l (e' _ _ (e6 _ _ (e5 _ _ (e4 _ _ hA)))), rfl, ?_, ?_, ?_, ?_, fun p2 hp2 => ?_⟩
  · exact List.all_eq_true.mpr fun v hv => by obtain ⟨t, _, rfl⟩ := List.mem_map.mp hv; rfl
  · rw [List.getElem?_map, at_ k i0 i1, i2]
    rfl
  · exact beq_self_eq_true _
  · intro q z' hq hz
    rw [List.getElem?_map] at hz
    obtain ⟨t, ht, rfl⟩ := Option.map_eq_some_iff.mp hz
    have := at_ (q : Int) (by omega) (by omega)
    rw [show ((q : Int)).toNat = q by omega, ht] at this
    have lt := i3 (q : Int) (by omega) (by omega)
    have e : t = timesD n s q := Option.some.inj this
    exact beq_eq_false_iff_ne.mpr (by omega)
  · rw [show ((k.toNat : Nat) : Int) = k by omega]
    have r0 := rho_nonneg n s
    have hM := med_200
    have ft := tup_fine (ns := [rho n s, k]) (fun i hi => by
      rcases List.mem_cons.mp hi with rfl | hi
      · omega
      rcases List.mem_cons.mp hi with rfl | hi
      · omega
      cases hi) (by simp)
    refine ⟨_, .tup (sq_t (exn hp2 _ _ hp)) (RpA.ints (S := fun _ => True) (ns := [rho n s, k])).dp, _, .tup (sq_t upd_same) (RpA.ints (S := fun _ => True) (ns := [rho n s, k])).dp, ft.1, ft.1, ?_⟩
    rw [eqv_same ft.1]
    exact q _ (o2.trans (Mo.ex (((((e3.trans e4).trans e5).trans e6).trans e').trans (exn hp2)))) ((((((R2.ex e3).ex e4).ex e5).ex e6).ex e').ex (exn hp2))
theorem tFor_zip {K : PySem.W.Frag} {ta : TA} {g : TG} {tb : TS} {D : Ends} {σ : L2.St} {H : Hp} : tFor (iZip K ta) g tb D σ H = ta σ H fun us H1 => ∃ a b xs ys, us = [.ref a, .ref b] ∧ SqL K H1 a xs ∧ SqL K H1 b ys ∧ ForJ (Itz K a b) g tb D σ H1 := rfl
theorem forZ_in {K : PySem.W.Frag} {a b : Addr} {g : TG} {tb : TS} {D : Ends} {σ : L2.St} {H : Hp} {xs ys : List V} (n : Nat) (hn : n = min xs.length ys.length) (Pv : Nat → L2.St → Hp → Prop) (h0 : Pv 0 σ H) (hl : ∀ i σ' H', i ≤ n → Pv i σ' H' → SqL K H' a xs ∧ SqL K H' b ys) (hd : ∀ σ H, Pv n σ H → D.nx σ H)
    (hs : ∀ (i : Nat) x y T σ H, xs[i]? = some x → ys[i]? = some y → Pv i σ H → H T = none → g (.ref T) σ (upd H T (.tup [x, y])) fun σ2 H2 => tb { D with nx := Pv (i + 1), ct := Pv (i + 1), bk := D.nx } σ2 H2) : ForJ (Itz K a b) g tb D σ H := by
  refine for_it (walk_zip hn) Pv h0 hl ?_ hd
  rintro i x σ H H' hi p ⟨T, x1, y1, rfl, hT, rfl, h1, h2⟩
  exact hs i x1 y1 T σ H h1 h2 p hT
/-! ### operations as data -/
def opD : Op → PyData
  | .go k => .tuple [.str "go", .int k]
  | .keep => .tuple [.str "keep"]
  | .take m => .tuple [.str "take", .int m]
  | .free m => .tuple [.str "free", .int m]
  | .back => .tuple [.str "back"]
theorem opD_dp {H : Hp} {a : Addr} {o : Op} (h : H a = some (.tup (opV o))) : Dp K H (.ref a) (opD o) := by
  cases o with
  | go k => exact .tup (sq_t h) (.cons (.str _) (.cons (.int _) .nil))
  | keep => exact .tup (sq_t h) (.cons (.str _) .nil)
  | take k => exact .tup (sq_t h) (.cons (.str _) (.cons (.int _) .nil))
  | free k => exact .tup (sq_t h) (.cons (.str _) (.cons (.int _) .nil))
  | back => exact .tup (sq_t h) (.cons (.str _) .nil)
theorem opD_fine {o : Op} (n : Nat) (h1 : 0 ≤ o.num) (h2 : o.num ≤ 10 ^ 40) : fine (n + 1) (opD o) = true := by
  have hM := med_200
  have l : o.num.natAbs.log2 < 1900 := med_log (by omega) (by omega)
  cases o with
  | go k => show (PyData.strOk "go" && (decide (k.natAbs.log2 < 1900) && true)) = true; rw [decide_eq_true (show k.natAbs.log2 < 1900 from l)]; decide +kernel
  | keep => show (PyData.strOk "keep" && true) = true; decide +kernel
  | take k => show (PyData.strOk "take" && (decide (k.natAbs.log2 < 1900) && true)) = true; rw [decide_eq_true (show k.natAbs.log2 < 1900 from l)]; decide +kernel
  | free k => show (PyData.strOk "free" && (decide (k.natAbs.log2 < 1900) && true)) = true; rw [decide_eq_true (show k.natAbs.log2 < 1900 from l)]; decide +kernel
  | back => show (PyData.strOk "back" && true) = true; decide +kernel
theorem op_rp {H : Hp} {S : Addr → Prop} {a : Addr} {o : Op} (m : S a) (h : H a = some (.tup (opV o))) : Rp H S (.ref a) (opD o) := by
  cases o with
  | go k => exact .tup m h (.cons (.str _) (.cons (.int _) .nil))
  | keep => exact .tup m h (.cons (.str _) .nil)
  | take k => exact .tup m h (.cons (.str _) (.cons (.int _) .nil))
  | free k => exact .tup m h (.cons (.str _) (.cons (.int _) .nil))
  | back => exact .tup m h (.cons (.str _) .nil)
theorem rp_op {H : Hp} {S : Addr → Prop} {v : V} {o : Op} (h : Rp H S v (opD o)) : ∃ a, v = .ref a ∧ S a ∧ H a = some (.tup (opV o)) := by
  cases o with
  | go k => cases h with | tup m e r => cases r with | cons r1 r => cases r1; cases r with | cons r1 r => cases r1; cases r; exact ⟨_, rfl, m, e⟩
  | keep => cases h with | tup m e r => cases r with | cons r1 r => cases r1; cases r; exact ⟨_, rfl, m, e⟩
  | take k => cases h with | tup m e r => cases r with | cons r1 r => cases r1; cases r with | cons r1 r => cases r1; cases r; exact ⟨_, rfl, m, e⟩
  | free k => cases h with | tup m e r => cases r with | cons r1 r => cases r1; cases r with | cons r1 r => cases r1; cases r; exact ⟨_, rfl, m, e⟩
  | back => cases h with | tup m e r => cases r with | cons r1 r => cases r1; cases r; exact ⟨_, rfl, m, e⟩
theorem told_rp39 {H0 H : Hp} {S : Addr → Prop} {p : Addr} {t : MSt} (hp : S p) (hs : ∀ b, H0 b = none → S b) (h : MTold H0 H p t) : Rp H S (.ref p) (.tuple [.int t.hand, .list (t.kept.map PyData.int), .int t.steps, .int t.backs]) := by
  obtain ⟨p2, n2, h1, h2⟩ := h
  exact .tup hp h1 (.cons (.int _) (.cons (.lst (hs _ n2) h2 RpA.ints) (.cons (.int _) (.cons (.int _) .nil))))
abbrev mD39 (t : MSt) : PyData := .tuple [.int t.hand, .list (t.kept.map PyData.int), .int t.steps, .int t.backs]
theorem rp_told39 {H : Hp} {S : Addr → Prop} {v : V} {t : MSt} (h : Rp H S v (mD39 t)) : ∃ p q, v = .ref p ∧ H p = some (.tup [.int t.hand, q, .int t.steps, .int t.backs]) := by
  cases h with
  | tup m e r => cases r with | cons r1 r => cases r1; cases r with | cons r2 r => cases r with | cons r3 r => cases r3; cases r with | cons r4 r => cases r4; cases r; exact ⟨_, _, rfl, e⟩
theorem cutV_1 (a : V) (l : List V) : cutV (a :: l) (some 1) none = l := by
  unfold cutV
  simp [HT.sIx]
  try omega
theorem range_filt {α β : Type} : ∀ (l : List α) (p : α → Bool) (F : α → β) (f : Nat → Bool) (d : Nat → β), (∀ i x, l[i]? = some x → f i = p x) → (∀ i x, l[i]? = some x → d i = F x) → ((List.range l.length).filter f).map d = (l.filter p).map F
  | [], p, F, f, d, _, _ => rfl
  | x :: l, p, F, f, d, hf, hd => by
    have ih := range_filt l p F (fun i => f (i + 1)) (fun i => d (i + 1)) (fun i y h => hf (i + 1) y h) (fun i y h => hd (i + 1) y h)
    have f0 := hf 0 x rfl
    have d0 := hd 0 x rfl
    rw [List.length_cons, List.range_succ_eq_map, List.filter_cons, List.filter_map, List.filter_cons, f0]
    have e1 : (List.map Nat.succ (List.filter (f ∘ Nat.succ) (List.range l.length))).map d = ((List.range l.length).filter fun i => f (i + 1)).map fun i => d (i + 1) := by
      rw [List.map_map]
      rfl
    by_cases h : p x = true
    · rw [if_pos h, if_pos h, List.map_cons, List.map_cons, d0, e1, ih]
    · rw [if_neg h, if_neg h, e1, ih]

theorem lc_rngM {σ : L2.St} {H : Hp} {ta : TA} {te : TE} {j : Nat} {vs : List Nat} {Q : VK} {r : Addr} {Pv : Int → Prop} (n : Nat) (ha : ∀ R, R [.int (n : Int)] H → ta σ H R) (hn : n ≤ 1000000) (hR : Bag H r) (hw : ∀ x, wipe ((wipe σ vs).set j (some x)) vs = wipe σ vs)
    (he : ∀ (i : Nat) H1, i < n → Mo r H H1 → Bag H1 r → ∀ R : VK, (∀ z H2, Pv z → Mo r H1 H2 → Bag H2 r → R (.int z) H2) → te ((wipe σ vs).set j (some (.int (i : Int)))) H1 R)
    (k : ∀ A H' (zs : List Int), Mo r H H' → Bag H' r → H A = none → H' A = some (.lst (zs.map V.int)) → zs.length = n → (∀ z ∈ zs, Pv z) → Q (.ref A) H') : tLc (iRng1 ta) (gName j) tYes te vs σ H Q := by
  refine ha _ ⟨(n : Int), rfl, by omega, by omega, fun D hD => ?_⟩
  have nD := hR.ne hD
  refine lc_range (lo := 0) (n := n) (fun i H' => ∃ zs : List Int, Mo r H H' ∧ Bag H' r ∧ H' D = some (.lst (zs.map V.int)) ∧ zs.length = i ∧ ∀ z ∈ zs, Pv z) ⟨[], Mo.ex (exn hD), hR.ex (exn hD), upd_same, rfl, fun z h => nomatch h⟩ (fun i H' hi ⟨zs, o, R, h, l, pz⟩ => ?_) (fun H' ⟨zs, o, R, h, l, pz⟩ => k D H' zs o R hD h l pz)
  have e0 : (0 : Int) + (i : Int) = (i : Int) := Int.zero_add _
  rw [e0]
  refine ⟨hw _, ?_⟩
  unfold tYes
  show (if true = true then _ else _)
  rw [if_pos rfl]
  refine he i H' hi o R _ fun z H2 hz o2 R2 => ⟨zs.map V.int, o2 D _ nD h, by rw [List.length_map, sizeLine_eq]; omega, zs ++ [z], fun c w nc hc => ?_, R2.keep fun w hw2 => ?_, ?_, by rw [List.length_append, l]; rfl, fun y hy => ?_⟩
  · rw [upd_ne (fun q => by rw [q, hD] at hc; cases hc)]
    exact o2 c w nc (o c w nc hc)
  · rw [upd_ne (Ne.symm nD)]
    exact hw2
  · rw [upd_same, List.map_append]
    rfl
  · rcases List.mem_append.mp hy with hy | hy
    · exact pz y hy
    · rw [List.mem_singleton.mp hy]
      exact hz
def isGo : Op → Bool
  | .go _ => true
  | _ => false
theorem gos_filt : ∀ os : List Op, ((os.filter isGo).map Op.num).sum = gos os
  | [] => rfl
  | .go k :: r => by
    rw [List.filter_cons_of_pos rfl, List.map_cons, List.sum_cons, gos_filt r]
    rfl
  | .keep :: r => gos_filt r
  | .back :: r => gos_filt r
  | .take m :: r => gos_filt r
  | .free m :: r => gos_filt r
theorem ops_win {n s : Int} (hn : 1 ≤ n) (hs : 1 ≤ s) {a : Int} {N : Nat} (h0 : 0 ≤ a) (h1 : a + N ≤ opsN n s) : ((List.range N).map fun (i : Nat) => opAt n s 0 (a + (i : Int))) = ((opsL n s 0).drop a.toNat).take N := by
  have hl := opsL_len n s hn hs 0
  refine List.ext_getElem? fun i => ?_
  rw [List.getElem?_map]
  by_cases hi : i < N
  · rw [List.getElem?_range hi, List.getElem?_take_of_lt hi, List.getElem?_drop, opsL_at n s hn hs 0 (a.toNat + i) (by omega)]
    show some (opAt n s 0 (a + (i : Int))) = _
    rw [show a + (i : Int) = ((a.toNat + i : Nat) : Int) by omega]
  · rw [List.getElem?_eq_none (by rw [List.length_range]; omega), List.getElem?_eq_none (by rw [List.length_take]; omega)]
    rfl
theorem gos_gap {n s : Int} (hn : 1 ≤ n) (hs : 1 ≤ s) {f l : Int} (h0 : 0 ≤ f) (h1 : f < l) (h2 : l ≤ opsN n s) (hb : opAt n s 0 f = .back) : (momT n s l).steps - (momT n s f).steps = gos (((opsL n s 0).drop (f + 1).toNat).take (l - (f + 1)).toNat) := by
  have w := (win (n := n) (s := s) (i := f.toNat) (k := (l - f).toNat) hn hs (by omega)).1
  rw [show ((f.toNat + (l - f).toNat : Nat) : Int) = l by omega, show ((f.toNat : Nat) : Int) = f by omega] at w
  have hl := opsL_len n s hn hs 0
  have hf := opsL_at n s hn hs 0 f.toNat (by omega)
  rw [show ((f.toNat : Nat) : Int) = f by omega, hb] at hf
  obtain ⟨hlt, hge⟩ := List.getElem?_eq_some_iff.mp hf
  rw [List.drop_eq_getElem_cons hlt, hge, show (l - f).toNat = (l - (f + 1)).toNat + 1 by omega, List.take_succ_cons] at w
  have w2 : (momT n s l).steps = (momT n s f).steps + gos (((opsL n s 0).drop (f.toNat + 1)).take (l - (f + 1)).toNat) := w
  rw [show (f + 1).toNat = f.toNat + 1 by omega]
  omega
def sp_L_great_right (K : PySem.W.Frag) : Sp := sp1 fun x H Q _ => ∃ (r : Addr), x = .ref r ∧ Bag H r ∧ ∀ H', Mo r H H' → Bag H' r → Q (.bl true) H'
theorem sc_L_great_right : FnScope ["_law_bag_here", "_law_length", "_law_slots", "_law_many", "_law_numbers", "_law_moments", "_law_one", "_law_other", "_law_state", "_law_first", "_law_later", "_law_between", "_law_goes", "_law_far", "_law_number", "_law_turn", "_law_operation"] ["_law_bag_here"] (defScope s_L_great_right) := ⟨rfl, rfl, rfl, by decide +kernel, rfl, by decide +kernel, by decide +kernel⟩
theorem ok_L_great_right (T : Txt P w K mg base) : FnOk P w K mg base (L2.CX P w) 9 T.a_L_great_right T.fd_L_great_right ["_law_bag_here"] (sp_L_great_right K) := by
  refine FunD.ok T.F_L_great_right sc_L_great_right (fun vs H Q E h => ar1 h) (fun cdv A fr s H vs Q E hr h => ⟨_, PSs.nox (Evl.pss_cut (ps_asg (pe_call (ok_L_deep T) (hr.mono (by decide)) (by rfl) T.g_L_deep T.F_L_deep.kp T.b_L_deep .nil passL (pa_cons (pv 0) pa_nil)) (pg_tupT (n := 2) rfl (pgs_cons (pg_name (i := 1) sc_L_great_right.nd rfl (.inr rfl)) (pgs_cons (pg_name (i := 2) sc_L_great_right.nd rfl (.inr rfl)) pgs_nil)))) (Evl.pss_cut (ps_set (i := 3) sc_L_great_right.nd rfl (.inr rfl) (pe_call (ok_operation_count T) (hr.mono (by decide)) (by rfl) T.g_operation_count T.F_operation_count.kp T.b_operation_count .nil passL (pa_cons (pv 1) (pa_cons (pv 2) pa_nil)))) (Evl.pss_cut (ps_set (i := 4) sc_L_great_right.nd rfl (.inl rfl) (pe_callB cr_sortedI (by rfl) T.n_sorted (by decide +kernel) (pa_cons (pe_lc (own := [("_law_turn", 15)]) rfl sc_L_great_right.nd (pi_range1 (by rfl) T.n_range (pa_cons pe_int pa_nil)) (blkOk_by (N := ["_law_bag_here", "_law_length", "_law_slots", "_law_many", "_law_numbers", "_law_moments", "_law_one", "_law_other", "_law_state", "_law_first", "_law_later", "_law_between", "_law_goes", "_law_far", "_law_number", "_law_turn", "_law_operation"]) (sc := defScope s_L_great_right) (by decide +kernel)) (fun _ _ _ _ _ => (pg_name (i := 15) sc_L_great_right.nd rfl (Or.inl rfl))) (fun _ _ _ _ _ => pts_nil) (fun _ _ _ _ _ => (pe_call (ok_L_pick T) (hr.mono (by decide)) (by rfl) T.g_L_pick T.F_L_pick.kp T.b_L_pick .nil passL (pa_cons (pv 0) (pa_cons (pe_op op_add (pv 3) pe_int) pa_nil))))) pa_nil))) (Evl.pss_cut (ps_setLc (i := 5) (own := [("_law_number", 14)]) rfl sc_L_great_right.nd rfl rfl (sw_true rfl rfl rfl (by decide +kernel)) (pi_list (pv 4)) (blkOk_by (N := ["_law_bag_here", "_law_length", "_law_slots", "_law_many", "_law_numbers", "_law_moments", "_law_one", "_law_other", "_law_state", "_law_first", "_law_later", "_law_between", "_law_goes", "_law_far", "_law_number", "_law_turn", "_law_operation"]) (sc := defScope s_L_great_right) (by decide +kernel)) (fun _ _ _ _ _ => (pg_name (i := 14) sc_L_great_right.nd rfl (Or.inl rfl))) (fun _ _ _ _ _ => pts_nil) (fun _ _ _ _ _ => (pe_call (ok_moment T) (hr.mono (by decide)) (by rfl) T.g_moment T.F_moment.kp T.b_moment .nil passL (pa_cons (pv 1) (pa_cons (pv 2) (pa_cons (pv 14) pa_nil)))))) (Evl.pss_cut (ps_for PassesOwn.never rfl (pi_zip (by rfl) T.n_zip (pa_cons (pv 5) (pa_cons (pe_slice (r := rSlL K) sl_list (pv 5) (po_some pe_int) po_none) pa_nil))) (pg_tupT (n := 2) rfl (pgs_cons (pg_name (i := 6) sc_L_great_right.nd rfl (.inl rfl)) (pgs_cons (pg_name (i := 7) sc_L_great_right.nd rfl (.inl rfl)) pgs_nil))) (pss_one (ps_if (PW.pt (pw_or (pt_cmpR op_gt (pe_ix ix_tupT (pv 6) pe_int (fun _ _ => rfl)) (pe_ix ix_tupT (pv 7) pe_int (fun _ _ => rfl)) (nomark _)) (pw_or1 (pt_cmpR op_gt (pe_ix ix_tupT (pv 6) pe_int (fun _ _ => rfl)) (pe_ix ix_tupT (pv 7) pe_int (fun _ _ => rfl)) (nomark _))))) (pss_one (ps_ret pe_bl)) pss_nil))) (Evl.pss_cut (ps_set (i := 8) sc_L_great_right.nd rfl (.inl rfl) (pe_op op_add pe_int (pe_call (ok_L_pick T) (hr.mono (by decide)) (by rfl) T.g_L_pick T.F_L_pick.kp T.b_L_pick .nil passL (pa_cons (pv 0) (pa_cons (pe_op op_sub (pv 1) pe_int) pa_nil))))) (Evl.pss_cut (ps_par (i := 9) (j := 10) (by rfl) sc_L_great_right.nd rfl rfl (by decide) rfl rfl (pa_cons (pe_call (ok_back_at T) (hr.mono (by decide)) (by rfl) T.g_back_at T.F_back_at.kp T.b_back_at .nil passL (pa_cons (pv 1) (pa_cons (pv 2) (pa_cons (pv 8) pa_nil)))) (pa_cons (pe_call (ok_back_at T) (hr.mono (by decide)) (by rfl) T.g_back_at T.F_back_at.kp T.b_back_at .nil passL (pa_cons (pv 1) (pa_cons (pv 2) (pa_cons (pe_op op_sub (pv 8) pe_int) pa_nil)))) pa_nil)) (by rfl)) (Evl.pss_cut (ps_setLc (i := 11) (own := [("_law_number", 14)]) rfl sc_L_great_right.nd rfl rfl (sw_true rfl rfl rfl (by decide +kernel)) (pi_range2L (by rfl) T.n_range (pa_cons (pe_op op_add (pv 9) pe_int) (pa_cons (pe_callB (call_min2 rfl) (by rfl) T.n_min (by decide +kernel) (pa_cons (pv 10) (pa_cons (pe_op op_add (pv 9) pe_int) pa_nil))) pa_nil))) (blkOk_by (N := ["_law_bag_here", "_law_length", "_law_slots", "_law_many", "_law_numbers", "_law_moments", "_law_one", "_law_other", "_law_state", "_law_first", "_law_later", "_law_between", "_law_goes", "_law_far", "_law_number", "_law_turn", "_law_operation"]) (sc := defScope s_L_great_right) (by decide +kernel)) (fun _ _ _ _ _ => (pg_name (i := 14) sc_L_great_right.nd rfl (Or.inl rfl))) (fun _ _ _ _ _ => pts_nil) (fun _ _ _ _ _ => (pe_call (ok_operation_at T) (hr.mono (by decide)) (by rfl) T.g_operation_at T.F_operation_at.kp T.b_operation_at .nil passL (pa_cons (pv 1) (pa_cons (pv 2) (pa_cons (pv 14) pa_nil)))))) (Evl.pss_cut (ps_set (i := 12) sc_L_great_right.nd rfl (.inl rfl) (pe_callB (r := rSum K) (cr_sum rfl) (by rfl) T.n_sum (by decide +kernel) (pa_cons (pe_lc (own := [("_law_operation", 16)]) rfl sc_L_great_right.nd (pi_list (pv 11)) (blkOk_by (N := ["_law_bag_here", "_law_length", "_law_slots", "_law_many", "_law_numbers", "_law_moments", "_law_one", "_law_other", "_law_state", "_law_first", "_law_later", "_law_between", "_law_goes", "_law_far", "_law_number", "_law_turn", "_law_operation"]) (sc := defScope s_L_great_right) (by decide +kernel)) (fun _ _ _ _ _ => (pg_name (i := 16) sc_L_great_right.nd rfl (Or.inl rfl))) (fun _ _ _ _ _ => (pts_one (pt_cmpR op_eq (pe_ix ix_tupT (pv 16) pe_int (fun _ _ => rfl)) pe_str (nomark _)))) (fun _ _ _ _ _ => (pe_ix ix_tupT (pv 16) pe_int (fun _ _ => rfl)))) pa_nil))) (Evl.pss_cut (ps_set (i := 13) sc_L_great_right.nd rfl (.inl rfl) (pe_op op_sub (pe_ix ix_tupT (pe_call (ok_moment T) (hr.mono (by decide)) (by rfl) T.g_moment T.F_moment.kp T.b_moment .nil passL (pa_cons (pv 1) (pa_cons (pv 2) (pa_cons (pv 10) pa_nil)))) pe_int (fun _ _ => rfl)) (pe_ix ix_tupT (pe_call (ok_moment T) (hr.mono (by decide)) (by rfl) T.g_moment T.F_moment.kp T.b_moment .nil passL (pa_cons (pv 1) (pa_cons (pv 2) (pa_cons (pv 9) pa_nil)))) pe_int (fun _ _ => rfl)))) (Evl.pss_cut (ps_if (PW.pt (pw_and (pt_cmpR op_lt (pv 10) (pe_op op_add (pv 9) pe_int) (nomark _)) (pw_and1 (pt_cmpR op_ne (pv 13) (pv 12) (nomark _))))) (pss_one (ps_ret pe_bl)) pss_nil) (Evl.pss_cut (ps_if (pt_cmpR (r := rNeF K) (op_neF hr) (pe_lc (own := [("_law_operation", 16)]) rfl sc_L_great_right.nd (pi_list (pv 11)) (blkOk_by (N := ["_law_bag_here", "_law_length", "_law_slots", "_law_many", "_law_numbers", "_law_moments", "_law_one", "_law_other", "_law_state", "_law_first", "_law_later", "_law_between", "_law_goes", "_law_far", "_law_number", "_law_turn", "_law_operation"]) (sc := defScope s_L_great_right) (by decide +kernel)) (fun _ _ _ _ _ => (pg_name (i := 16) sc_L_great_right.nd rfl (Or.inl rfl))) (fun _ _ _ _ _ => (pts_one (pt_cmpR op_eq (pe_ix ix_tupT (pv 16) pe_int (fun _ _ => rfl)) pe_str (nomark _)))) (fun _ _ _ _ _ => (pv 16))) (pe_lst pa_nil) (nomark _)) (pss_one (ps_ret pe_bl)) pss_nil) (pss_one (ps_ret (pe_and (pe_call (ok_L_step_right T) hr (by rfl) T.g_L_step_right T.F_L_step_right.kp T.b_L_step_right .nil passL (pa_cons (pv 0) (pa_cons (pv 1) (pa_cons (pv 2) pa_nil)))) (pe_one (pe_call (ok_L_step_right T) hr (by rfl) T.g_L_step_right T.F_L_step_right.kp T.b_L_step_right .nil passL (pa_cons (pv 0) (pa_cons (pv 1) (pa_cons (pv 2) pa_nil)))))))))))))))))))), ?_⟩)
  obtain ⟨_, rfl, r, rfl, hR, q⟩ := h
  refine Evl.q_cut (M := fun σ' H' => ∃ n s : Int, σ' = (some (.ref r) :: some (.int n) :: some (.int s) :: List.replicate 14 none) ∧ Mo r H H' ∧ Bag H' r ∧ PB n s ∧ 2 ≤ n) ?_ ?_
  · unfold sp_L_deep
    walk_at "rd"
    exact ⟨hR, fun n s p H' hb n2 _ o R _ _ hp => ⟨_, hp, rfl, _, _, rfl, _, _, rfl, rfl, n, rfl, s, rfl, o, R, hb, n2⟩⟩
  rintro σ H1 ⟨n, s, rfl, o1, R1, hb, n2⟩
  simp only [List.replicate]
  have n1 := hb.1
  have s1 := hb.2.2.1
  have og := opsN_ge n s n1 s1
  refine Evl.q_cut (M := fun σ' H' => σ' = [some (.ref r), some (.int n), some (.int s), some (.int (opsN n s)), none, none, none, none, none, none, none, none, none, none, none, none, none] ∧ Ex H1 H') ?_ ?_
  · unfold sp_operation_count
    walk_at "rd"
    exact ⟨hb, fun H' e => e⟩
  rintro σ H2 ⟨rfl, e2⟩
  refine Evl.q_cut (M := fun σ' H' => ∃ A, ∃ is : List Int, σ' = [some (.ref r), some (.int n), some (.int s), some (.int (opsN n s)), some (.ref A), none, none, none, none, none, none, none, none, none, none, none, none] ∧ Mo r H1 H' ∧ Bag H' r ∧ H' A = some (.lst (is.map V.int)) ∧ is.Pairwise (· ≤ ·) ∧ is.length = 3 ∧ ∀ i ∈ is, 0 ≤ i ∧ i ≤ opsN n s) ?_ ?_
  · unfold sp_L_pick
    walk_at "rd"
    refine lc_rngM (r := r) (Pv := fun z => 0 ≤ z ∧ z ≤ opsN n s) 3 (fun R q => by walk_at "rd"; exact q) (by omega) (R1.ex e2) (fun _ => rfl) (fun i H4 hi o4 R4 R k => ?_) (fun A0 H4 zs o4 R4 nA hA hl hz => ?_)
    · simp only [wipe]
      walk_at "rd"
      exact ⟨R4, by omega, by have := hb.2.1; omega, fun z H5 z0 z1 o5 R5 => k z H5 ⟨z0, by omega⟩ o5 R5⟩
    · refine ⟨A0, zs, rfl, sq_l hA, fun ns' p pm up hp => ⟨p, rfl, (Mo.ex e2).trans (o4.trans (Mo.ex (exn hp))), R4.ex (exn hp), ns', upd_same, up, by rw [pm.length_eq, hl], fun i hi => hz i (pm.mem_iff.mp hi)⟩⟩
  rintro σ H3 ⟨A, is, rfl, o3, R3, hA, up, len, bnd⟩
  refine Evl.q_cut (M := fun σ' H' => ∃ B vs, σ' = [some (.ref r), some (.int n), some (.int s), some (.int (opsN n s)), some (.ref A), some (.ref B), none, none, none, none, none, none, none, none, none, none, none] ∧ Ex H3 H' ∧ H' B = some (.lst vs) ∧ RpA H' (fun _ => True) vs (is.map fun i => mD39 (momT n s i))) ?_ ?_
  · unfold sp_moment
    walk_at "rd"
    simp only [tLc_lst]
    walk_at "rd"
    refine lcL_g (xs := is.map V.int) (sq_l hA) (fun _ => true) (fun j => mD39 (momT n s (is.getD j 0))) (by rw [List.length_map]; omega) ?_ ?_
    · intro j x H4 hx e4 R Rt _ k2
      rw [List.getElem?_map] at hx
      obtain ⟨i, hi, rfl⟩ := Option.map_eq_some_iff.mp hx
      have gd : is.getD j 0 = i := by rw [List.getD_eq_getElem?_getD, hi]; rfl
      rw [gd] at k2
      have bi := bnd i (List.mem_of_getElem? hi)
      simp only [wipe]
      walk_at "rd"
      unfold tYes
      refine iteY rfl ⟨hb, bi.1, bi.2, fun p H5 e5 hp hm => k2 rfl _ H5 e5 (told_rp39 hp (fun _ h => h) hm)⟩
    · intro v H4 e4 hv
      rw [List.filter_eq_self.mpr (fun _ _ => rfl), List.length_map] at hv
      have e9 : ((List.range is.length).map fun j => mD39 (momT n s (is.getD j 0))) = is.map fun i => mD39 (momT n s i) := by
        refine List.ext_getElem? fun j => ?_
        rw [List.getElem?_map, List.getElem?_map]
        by_cases hj : j < is.length
        · have gd : is.getD j 0 = is[j] := by rw [List.getD_eq_getElem?_getD, List.getElem?_eq_getElem hj]; rfl
          rw [List.getElem?_range hj, List.getElem?_eq_getElem hj]
          show some (mD39 (momT n s (is.getD j 0))) = some (mD39 (momT n s is[j]))
          rw [gd]
        · rw [List.getElem?_eq_none (by rw [List.length_range]; omega), List.getElem?_eq_none (by omega)]
          rfl
      rw [e9] at hv
      cases hv with
      | lst m h a => exact ⟨_, rfl, e4, _, h, a.sub fun _ _ => trivial⟩
  rintro σ H4 ⟨B, vs, rfl, e4, hB, rB⟩
  refine Evl.q_cut (M := fun σ' H' => ∃ u v, σ' = [some (.ref r), some (.int n), some (.int s), some (.int (opsN n s)), some (.ref A), some (.ref B), u, v, none, none, none, none, none, none, none, none, none] ∧ Ex H4 H') ?_ ?_
  · walk_at "rd"
    simp only [tFor_zip]
    walk_at "rd"
    have lv : vs.length = 3 := by rw [rB.len, List.length_map, len]
    obtain ⟨v1, vr, rfl⟩ : ∃ a b, vs = a :: b := by
      cases vs with
      | nil => cases lv
      | cons a b => exact ⟨a, b, rfl⟩
    refine ⟨v1 :: vr, sq_l hB, fun p hp => ?_⟩
    rw [cutV_1]
    refine ⟨v1 :: vr, sq_l (exn hp _ _ hB), _, sq_l upd_same, forZ_in (xs := v1 :: vr) (ys := vr) 2 (by rw [List.length_cons] at lv; rw [List.length_cons]; omega) (fun j σ' H' => ∃ u v, σ' = [some (.ref r), some (.int n), some (.int s), some (.int (opsN n s)), some (.ref A), some (.ref B), u, v, none, none, none, none, none, none, none, none, none] ∧ Ex (upd H4 p (.lst vr)) H') ⟨none, none, rfl, .refl _⟩ ?_ ?_ ?_⟩
    · rintro j σ' H' _ ⟨u, v, _, e⟩
      exact ⟨sq_l (e _ _ (exn hp _ _ hB)), sq_l (e _ _ upd_same)⟩
    · rintro σ' H' ⟨u, v, rfl, e⟩
      exact ⟨u, v, rfl, (exn hp).trans e⟩
    · rintro j x y T0 σ' H' hx hy ⟨u, v, rfl, e⟩ hT0
      have hy2 : (v1 :: vr)[j + 1]? = some y := hy
      obtain ⟨d1, hd1, rp1⟩ := rB.at' hx
      obtain ⟨d2, hd2, rp2⟩ := rB.at' hy2
      rw [List.getElem?_map] at hd1 hd2
      obtain ⟨i1, hi1, rfl⟩ := Option.map_eq_some_iff.mp hd1
      obtain ⟨i2, hi2, rfl⟩ := Option.map_eq_some_iff.mp hd2
      obtain ⟨p1, q1, rfl, hp1⟩ := rp_told39 rp1
      obtain ⟨p2, q2, rfl, hp2⟩ := rp_told39 rp2
      have b1 := bnd i1 (List.mem_of_getElem? hi1)
      have b2 := bnd i2 (List.mem_of_getElem? hi2)
      have le : i1 ≤ i2 := by
        obtain ⟨l1, e1⟩ := List.getElem?_eq_some_iff.mp hi1
        obtain ⟨l2, e2⟩ := List.getElem?_eq_some_iff.mp hi2
        rw [← e1, ← e2]
        exact List.pairwise_iff_getElem.mp up j (j + 1) l1 l2 (by omega)
      have mu := mom_up n1 s1 b1.1 le b2.2
      have eT := ((exn (o := .lst vr) hp).trans e).trans (exn (o := .tup [.ref p1, .ref p2]) hT0)
      have eT2 := e.trans (exn (o := .tup [.ref p1, .ref p2]) hT0)
      have hTu := upd_same (H := H') (a := T0) (o := .tup [.ref p1, .ref p2])
      have h1 := eT _ _ hp1
      have h2 := eT _ _ hp2
      generalize upd H' T0 (.tup [.ref p1, .ref p2]) = Hx at *
      walk_at "rd"
      exact ⟨_, hTu, rfl, _, _, rfl, _, _, rfl, rfl, p1, rfl, _, h1, _, atI_2, p2, rfl, _, h2, _, atI_2, _, rfl, _, rfl, iteNo (by omega) ⟨p1, rfl, _, h1, _, atI_3, p2, rfl, _, h2, _, atI_3, _, rfl, _, rfl, iteNo (by omega) eT2⟩⟩
  rintro σ H5 ⟨u, v, rfl, e5⟩
  have o5 := o3.trans (Mo.ex (r := r) (e4.trans e5))
  have R5 := (R3.ex e4).ex e5
  refine Evl.q_cut (M := fun σ' H' => ∃ x : Int, σ' = [some (.ref r), some (.int n), some (.int s), some (.int (opsN n s)), some (.ref A), some (.ref B), u, v, some (.int x), none, none, none, none, none, none, none, none] ∧ Mo r H1 H' ∧ Bag H' r ∧ 1 ≤ x ∧ x < n) ?_ ?_
  · unfold sp_L_pick
    walk_at "rd"
    exact ⟨R5, by omega, by have := hb.2.1; omega, fun z H' z0 z1 o R => ⟨o5.trans o, R, by omega, by omega⟩⟩
  rintro σ H6 ⟨x, rfl, o6, R6, x1, x2⟩
  have bf := back_in n1 s1 (x := x) (by omega) x2
  have bl := back_in n1 s1 (x := x - 1) (by omega) (by omega)
  have bd := back_down n1 s1 (x := x) (y := x - 1) (by omega) (by omega) x2
  have gap := fun i => back_gap n1 s1 (x := x) (i := i) x1 x2
  refine Evl.q_cut (M := fun σ' H' => σ' = [some (.ref r), some (.int n), some (.int s), some (.int (opsN n s)), some (.ref A), some (.ref B), u, v, some (.int x), some (.int (backAt n s x)), some (.int (backAt n s (x - 1))), none, none, none, none, none, none] ∧ Ex H6 H') ?_ ?_
  · unfold sp_back_at
    walk_at "rd"
    exact ⟨hb, by omega, x2, fun H' e => ⟨hb, by omega, by omega, fun H'' e' => e.trans e'⟩⟩
  rintro σ H7 ⟨rfl, e7⟩
  refine Evl.q_cut (M := fun σ' H' => ∃ C os vs, σ' = [some (.ref r), some (.int n), some (.int s), some (.int (opsN n s)), some (.ref A), some (.ref B), u, v, some (.int x), some (.int (backAt n s x)), some (.int (backAt n s (x - 1))), some (.ref C), none, none, none, none, none] ∧ Ex H6 H' ∧ H' C = some (.lst vs) ∧ RpA H' (fun _ => True) vs (os.map opD) ∧ os = ((opsL n s 0).drop (backAt n s x + 1).toNat).take (min (backAt n s (x - 1)) (backAt n s x + 15) - (backAt n s x + 1)).toNat) ?_ ?_
  · unfold sp_operation_at
    walk_at "rd"
    refine lc_rng2L (lo := backAt n s x + 1) (n := (min (backAt n s (x - 1)) (backAt n s x + 15) - (backAt n s x + 1)).toNat) (fun i => opD (opAt n s 0 (backAt n s x + 1 + (i : Int)))) (fun R q => by walk_at "rd"; exact q) (by omega) (by split <;> omega) (fun _ => rfl) (fun i H8 hi e8 R k => ?_) ?_
    · simp only [wipe]
      walk_at "rd"
      exact ⟨hb, by omega, by omega, fun p H9 hp e9 h9 => k _ H9 e9 (op_rp hp h9)⟩
    · intro v H8 e8 hv
      have ew := ops_win n1 s1 (a := backAt n s x + 1) (N := (min (backAt n s (x - 1)) (backAt n s x + 15) - (backAt n s x + 1)).toNat) (by omega) (by omega)
      cases hv with
      | lst m h a =>
        refine ⟨_, rfl, e7.trans e8, _, _, h, ?_, rfl⟩
        rw [← ew, List.map_map]
        exact a.sub fun _ _ => trivial
  rintro σ H8 ⟨C, os, vs, rfl, e8, hC, rC, eos⟩
  refine Evl.q_cut (M := fun σ' H' => ∃ g, σ' = [some (.ref r), some (.int n), some (.int s), some (.int (opsN n s)), some (.ref A), some (.ref B), u, v, some (.int x), some (.int (backAt n s x)), some (.int (backAt n s (x - 1))), some (.ref C), some (.int g), none, none, none, none] ∧ Ex H8 H' ∧ g = gos os) ?_ ?_
  · walk_at "rd"
    simp only [tLc_lst]
    walk_at "rd"
    have lo : os.length ≤ 15 := by rw [eos, List.length_take]; omega
    have lv : vs.length = os.length := by rw [rC.len, List.length_map]
    refine lcL_g (xs := vs) (sq_l hC) (fun j => match os[j]? with | some o => isGo o | none => false) (fun j => .int (match os[j]? with | some o => o.num | none => 0)) (by omega) ?_ ?_
    · intro j x0 H9 hx e9 R Rt k1 k2
      obtain ⟨d, hd, rp⟩ := rC.at' hx
      rw [List.getElem?_map] at hd
      obtain ⟨o, ho, rfl⟩ := Option.map_eq_some_iff.mp hd
      obtain ⟨b, rfl, _, hb9⟩ := rp_op rp
      have h9 := e9 _ _ hb9
      rw [ho] at k1 k2
      simp only [wipe]
      walk_at "rd"
      cases o with
      | go k => exact ⟨_, h9, _, atI_0, rfl, iteY rfl ⟨_, h9, _, atI_1, k2 rfl _ H9 (.refl _) (.int k)⟩⟩
      | _ => exact ⟨_, h9, _, atI_0, rfl, iteNo (fun z => by cases z) (k1 rfl H9 (.refl _))⟩
    · intro v H9 e9 hv
      rw [lv, range_filt os isGo (fun o => PyData.int o.num) _ _ (fun i o h => by rw [h]) (fun i o h => by rw [h])] at hv
      have hv2 : Rp H9 (New H8) v (.list (((os.filter isGo).map Op.num).map PyData.int)) := by rw [List.map_map]; exact hv
      obtain ⟨M, rfl, _, hM⟩ := hv2.ints
      exact ⟨M, _, rfl, sq_l hM, _, rfl, e9, gos_filt os⟩
  rintro σ H9 ⟨g, rfl, e9, eg⟩
  refine Evl.q_cut (M := fun σ' H' => σ' = [some (.ref r), some (.int n), some (.int s), some (.int (opsN n s)), some (.ref A), some (.ref B), u, v, some (.int x), some (.int (backAt n s x)), some (.int (backAt n s (x - 1))), some (.ref C), some (.int g), some (.int ((momT n s (backAt n s (x - 1))).steps - (momT n s (backAt n s x)).steps)), none, none, none] ∧ Ex H8 H') ?_ ?_
  · unfold sp_moment
    walk_at "rd"
    exact ⟨hb, by omega, by omega, fun p H' e hp ⟨p2, _, h4, _⟩ => ⟨_, h4, _, atI_2, hb, by omega, by omega, fun p' H'' e' hp' ⟨p3, _, h5, _⟩ => ⟨_, h5, _, atI_2, _, rfl, _, rfl, rfl, (e9.trans e).trans e'⟩⟩⟩
  rintro σ H10 ⟨rfl, e10⟩
  refine Evl.q_cut (M := fun σ' H' => σ' = [some (.ref r), some (.int n), some (.int s), some (.int (opsN n s)), some (.ref A), some (.ref B), u, v, some (.int x), some (.int (backAt n s x)), some (.int (backAt n s (x - 1))), some (.ref C), some (.int g), some (.int ((momT n s (backAt n s (x - 1))).steps - (momT n s (backAt n s x)).steps)), none, none, none] ∧ H10 = H') ?_ ?_
  · walk_at "rd"
    refine ite2 (fun h => iteNo (fun z => z ?_) trivial) fun _ => trivial
    rw [gos_gap n1 s1 bf.1 bd (by omega) bf.2.2, eg, eos, show min (backAt n s (x - 1)) (backAt n s x + 15) = backAt n s (x - 1) by omega]
  rintro σ _ ⟨rfl, rfl⟩
  refine Evl.q_cut (M := fun σ' H' => σ' = [some (.ref r), some (.int n), some (.int s), some (.int (opsN n s)), some (.ref A), some (.ref B), u, v, some (.int x), some (.int (backAt n s x)), some (.int (backAt n s (x - 1))), some (.ref C), some (.int g), some (.int ((momT n s (backAt n s (x - 1))).steps - (momT n s (backAt n s x)).steps)), none, none, none] ∧ Ex H6 H') ?_ ?_
  · walk_at "rd"
    simp only [tLc_lst]
    walk_at "rd"
    have lo : os.length ≤ 15 := by rw [eos, List.length_take]; omega
    have lv : vs.length = os.length := by rw [rC.len, List.length_map]
    have e810 := e10
    refine lcL_g (xs := vs) (sq_l (e810 _ _ hC)) (fun _ => false) (fun _ => .none) (by omega) ?_ ?_
    · intro j x0 H12 hx e12 R Rt k1 k2
      obtain ⟨d, hd, rp⟩ := rC.at' hx
      rw [List.getElem?_map] at hd
      obtain ⟨o, ho, rfl⟩ := Option.map_eq_some_iff.mp hd
      obtain ⟨b, rfl, _, hb9⟩ := rp_op rp
      have h9 := e12 _ _ (e810 _ _ hb9)
      have nb : o ≠ .back := fun z => by
        have hj := (List.getElem?_eq_some_iff.mp ho).1
        rw [eos, List.length_take] at hj
        have ew := ops_win n1 s1 (a := backAt n s x + 1) (N := (min (backAt n s (x - 1)) (backAt n s x + 15) - (backAt n s x + 1)).toNat) (by omega) (by omega)
        rw [eos, ← ew, List.getElem?_map, List.getElem?_range (by omega)] at ho
        have ho2 : opAt n s 0 (backAt n s x + 1 + (j : Int)) = o := Option.some.inj ho
        exact gap (backAt n s x + 1 + (j : Int)) (by omega) (by omega) (by rw [ho2, z])
      simp only [wipe]
      walk_at "rd"
      cases o with
      | back => exact absurd rfl nb
      | _ => exact ⟨_, h9, _, atI_0, rfl, iteNo (fun z => by cases z) (k1 rfl H12 (.refl _))⟩
    · intro v H12 e12 hv p hp
      rw [List.filter_eq_nil_iff.mpr (fun _ _ => by decide)] at hv
      exact ⟨.list [], (hv.ex (exn hp)).dp, .list [], .lst (sq_l upd_same) .nil, rfl, rfl, iteNo (by decide) ((e8.trans (e10.trans e12)).trans (exn hp))⟩
  rintro σ H11 ⟨rfl, e11⟩
  unfold sp_L_step_right
  walk_at "rd"
  have o11 := (o1.trans o6).trans (Mo.ex (r := r) e11)
  exact ⟨R6.ex e11, hb, n2, fun H12 o12 R12 => ⟨R12, hb, n2, fun H13 o13 R13 => q H13 ((o11.trans o12).trans o13) R13⟩⟩
def sp_law (K : PySem.W.Frag) : Sp := sp1 fun x H Q _ => ∃ (a : Addr) (ns : List Int), x = .ref a ∧ SqL K H a (ns.map V.int) ∧ ns.length ≤ 63 ∧ ∀ H', Q (.bl true) H'
theorem sc_law : FnScope ["_law_script", "_law_cell", "_law_bag_here"] ["_law_script"] (defScope s_law) := ⟨rfl, rfl, rfl, by decide +kernel, rfl, by decide +kernel, by decide +kernel⟩
theorem ok_law (T : Txt P w K mg base) : FnOk P w K mg base (L2.CX P w) 10 T.a_law T.fd_law ["_law_script"] (sp_law K) := by
  refine FunD.ok T.F_law sc_law (fun vs H Q E h => ar1 h) (fun cdv A fr s H vs Q E hr h => ⟨_, PSs.nox (pss_cons (ps_for PassesOwn.never rfl (pi_list (pe_op op_cat (pe_slice (r := rSlL K) sl_list (pv 0) po_none (po_some pe_int)) (pe_lst (pa_cons pe_int pa_nil)))) (pg_name (i := 1) sc_law.nd rfl (.inl rfl)) (pss_cons (ps_set (i := 2) sc_law.nd rfl (.inl rfl) (pe_call (ok_L_bag T) (hr.mono (by decide)) (by rfl) T.g_L_bag T.F_L_bag.kp T.b_L_bag .nil passL (pa_cons (pv 1) pa_nil))) (pss_one (ps_if (PW.pt (pw_or (pt_not (pt_val (pe_call (ok_L_great_right T) hr (by rfl) T.g_L_great_right T.F_L_great_right.kp T.b_L_great_right .nil passL (pa_cons (pv 2) pa_nil)))) (pw_or1 (pt_not (pt_val (pe_call (ok_L_small_right T) (hr.mono (by decide)) (by rfl) T.g_L_small_right T.F_L_small_right.kp T.b_L_small_right .nil passL (pa_cons (pv 2) pa_nil))))))) (pss_one (ps_ret pe_bl)) pss_nil)))) (pss_one (ps_ret (pe_cmpR op_isN (pe_call (ok_most_repeated T) (hr.mono (by decide)) (by rfl) T.g_most_repeated T.F_most_repeated.kp T.b_most_repeated .nil passL (pa_cons pe_int (pa_cons pe_int pa_nil))) pe_non (nomark _))))), ?_⟩)
  obtain ⟨_, rfl, S, ns, rfl, hS, hl, q⟩ := h
  simp only [tSeq]
  refine for_cells (m := 5) rfl hS hl (fun σ H' => ∃ x y, σ = [some (.ref S), x, y]) (fun _ _ => ⟨_, _, rfl⟩) ?_ ?_
  · rintro H0 e0 σ H' e' ⟨x, y, rfl⟩
    unfold sp_most_repeated
    walk_at "rd"
    exact ⟨⟨by decide, by decide, by decide, by decide, by rw [rho_one (by decide)]; decide⟩, fun _ H'' _ => q H'', fun z => absurd rfl z⟩
  · rintro H0 e0 x σ H' e' ⟨a, b, rfl⟩
    walk_at "rd"
    unfold sp_L_bag sp_L_great_right sp_L_small_right
    walk_at "rd"
    refine fun r H2 hr e2 R2 => ⟨R2, fun H3 o3 R3 => ⟨R3, fun H4 o4 R4 => ?_⟩⟩
    exact Mo.ex_new (e'.trans e2) (Evl.fresh_back e' hr) (o3.trans o4)
end
def d_is_int : He.DefD := ⟨("is_int", none), "is_int", "is_int", defArgs s_is_int, defBody s_is_int, defScope s_is_int, [], []⟩
def d_is_whole : He.DefD := ⟨("is_whole", none), "is_whole", "is_whole", defArgs s_is_whole, defBody s_is_whole, defScope s_is_whole, [], []⟩
def d_TooLarge___init__ : He.DefD := ⟨("TooLarge", some "__init__"), "__init__", "TooLarge.__init__", defArgs s_TooLarge___init__, defBody s_TooLarge___init__, defScope s_TooLarge___init__, [], []⟩
def d_TooDeep___init__ : He.DefD := ⟨("TooDeep", some "__init__"), "__init__", "TooDeep.__init__", defArgs s_TooDeep___init__, defBody s_TooDeep___init__, defScope s_TooDeep___init__, [], []⟩
def d_require_length : He.DefD := ⟨("require_length", none), "require_length", "require_length", defArgs s_require_length, defBody s_require_length, defScope s_require_length, [], []⟩
def d_require_slots : He.DefD := ⟨("require_slots", none), "require_slots", "require_slots", defArgs s_require_slots, defBody s_require_slots, defScope s_require_slots, [], []⟩
def d_require_task : He.DefD := ⟨("require_task", none), "require_task", "require_task", defArgs s_require_task, defBody s_require_task, defScope s_require_task, [], []⟩
def d_reach_of : He.DefD := ⟨("reach_of", none), "reach_of", "reach_of", defArgs s_reach_of, defBody s_reach_of, defScope s_reach_of, [], []⟩
def d_rounds_of : He.DefD := ⟨("rounds_of", none), "rounds_of", "rounds_of", defArgs s_rounds_of, defBody s_rounds_of, defScope s_rounds_of, [], []⟩
def d_closed_count : He.DefD := ⟨("closed_count", none), "closed_count", "closed_count", defArgs s_closed_count, defBody s_closed_count, defScope s_closed_count, [], []⟩
def d_halves_of : He.DefD := ⟨("halves_of", none), "halves_of", "halves_of", defArgs s_halves_of, defBody s_halves_of, defScope s_halves_of, [], []⟩
def d_own_operations : He.DefD := ⟨("own_operations", none), "own_operations", "own_operations", defArgs s_own_operations, defBody s_own_operations, defScope s_own_operations, [], []⟩
def d_count_of : He.DefD := ⟨("count_of", none), "count_of", "count_of", defArgs s_count_of, defBody s_count_of, defScope s_count_of, [], []⟩
def d_parts_of : He.DefD := ⟨("parts_of", none), "parts_of", "parts_of", defArgs s_parts_of, defBody s_parts_of, defScope s_parts_of, [], []⟩
def d_whole_plan : He.DefD := ⟨("whole_plan", none), "whole_plan", "whole_plan", defArgs s_whole_plan, defBody s_whole_plan, defScope s_whole_plan, [], []⟩
def d_row_operation : He.DefD := ⟨("row_operation", none), "row_operation", "row_operation", defArgs s_row_operation, defBody s_row_operation, defScope s_row_operation, [], []⟩
def d_operation_of : He.DefD := ⟨("operation_of", none), "operation_of", "operation_of", defArgs s_operation_of, defBody s_operation_of, defScope s_operation_of, [], []⟩
def d_Moment___init__ : He.DefD := ⟨("Moment", some "__init__"), "__init__", "Moment.__init__", defArgs s_Moment___init__, defBody s_Moment___init__, defScope s_Moment___init__, [], []⟩
def d_Moment_go : He.DefD := ⟨("Moment", some "go"), "go", "Moment.go", defArgs s_Moment_go, defBody s_Moment_go, defScope s_Moment_go, [], []⟩
def d_Moment_keep : He.DefD := ⟨("Moment", some "keep"), "keep", "Moment.keep", defArgs s_Moment_keep, defBody s_Moment_keep, defScope s_Moment_keep, [], []⟩
def d_Moment_take : He.DefD := ⟨("Moment", some "take"), "take", "Moment.take", defArgs s_Moment_take, defBody s_Moment_take, defScope s_Moment_take, [], []⟩
def d_Moment_free_last : He.DefD := ⟨("Moment", some "free_last"), "free_last", "Moment.free_last", defArgs s_Moment_free_last, defBody s_Moment_free_last, defScope s_Moment_free_last, [], []⟩
def d_Moment_pass_part : He.DefD := ⟨("Moment", some "pass_part"), "pass_part", "Moment.pass_part", defArgs s_Moment_pass_part, defBody s_Moment_pass_part, defScope s_Moment_pass_part, [], []⟩
def d_Moment_pass_row : He.DefD := ⟨("Moment", some "pass_row"), "pass_row", "Moment.pass_row", defArgs s_Moment_pass_row, defBody s_Moment_pass_row, defScope s_Moment_pass_row, [], []⟩
def d_Moment_told : He.DefD := ⟨("Moment", some "told"), "told", "Moment.told", defArgs s_Moment_told, defBody s_Moment_told, defScope s_Moment_told, [], []⟩
def d_moment_of : He.DefD := ⟨("moment_of", none), "moment_of", "moment_of", defArgs s_moment_of, defBody s_moment_of, defScope s_moment_of, [], []⟩
def d_operation_count : He.DefD := ⟨("operation_count", none), "operation_count", "operation_count", defArgs s_operation_count, defBody s_operation_count, defScope s_operation_count, [], []⟩
def d_operation_at : He.DefD := ⟨("operation_at", none), "operation_at", "operation_at", defArgs s_operation_at, defBody s_operation_at, defScope s_operation_at, [], []⟩
def d_moment : He.DefD := ⟨("moment", none), "moment", "moment", defArgs s_moment, defBody s_moment, defScope s_moment, [], []⟩
def d_back_at : He.DefD := ⟨("back_at", none), "back_at", "back_at", defArgs s_back_at, defBody s_back_at, defScope s_back_at, [], []⟩
def d_goes_of : He.DefD := ⟨("goes_of", none), "goes_of", "goes_of", defArgs s_goes_of, defBody s_goes_of, defScope s_goes_of, [], []⟩
def d_asked_goes : He.DefD := ⟨("asked_goes", none), "asked_goes", "asked_goes", defArgs s_asked_goes, defBody s_asked_goes, defScope s_asked_goes, [], []⟩
def d_times_done : He.DefD := ⟨("times_done", none), "times_done", "times_done", defArgs s_times_done, defBody s_times_done, defScope s_times_done, [], []⟩
def d_go_at : He.DefD := ⟨("go_at", none), "go_at", "go_at", defArgs s_go_at, defBody s_go_at, defScope s_go_at, [], []⟩
def d_most_repeated : He.DefD := ⟨("most_repeated", none), "most_repeated", "most_repeated", defArgs s_most_repeated, defBody s_most_repeated, defScope s_most_repeated, [], []⟩
def d_steps_with : He.DefD := ⟨("steps_with", none), "steps_with", "steps_with", defArgs s_steps_with, defBody s_steps_with, defScope s_steps_with, [], []⟩
def d_least_of : He.DefD := ⟨("least_of", none), "least_of", "least_of", defArgs s_least_of, defBody s_least_of, defScope s_least_of, [], []⟩
def d_least_steps : He.DefD := ⟨("least_steps", none), "least_steps", "least_steps", defArgs s_least_steps, defBody s_least_steps, defScope s_least_steps, [], []⟩
def d_step_times : He.DefD := ⟨("step_times", none), "step_times", "step_times", defArgs s_step_times, defBody s_step_times, defScope s_step_times, [], []⟩
def d_L_bag : He.DefD := ⟨("_law_bag", none), "_law_bag", "_law_bag", defArgs s_L_bag, defBody s_L_bag, defScope s_L_bag, [], []⟩
def d_L_pick : He.DefD := ⟨("_law_pick", none), "_law_pick", "_law_pick", defArgs s_L_pick, defBody s_L_pick, defScope s_L_pick, [], []⟩
def d_L_reach : He.DefD := ⟨("_law_reach", none), "_law_reach", "_law_reach", defArgs s_L_reach, defBody s_L_reach, defScope s_L_reach, [], []⟩
def d_L_rounds : He.DefD := ⟨("_law_rounds", none), "_law_rounds", "_law_rounds", defArgs s_L_rounds, defBody s_L_rounds, defScope s_L_rounds, [], []⟩
def d_L_least : He.DefD := ⟨("_law_least", none), "_law_least", "_law_least", defArgs s_L_least, defBody s_L_least, defScope s_L_least, [], []⟩
def d_L_deep : He.DefD := ⟨("_law_deep", none), "_law_deep", "_law_deep", defArgs s_L_deep, defBody s_L_deep, defScope s_L_deep, [], []⟩
def d_L_step_right : He.DefD := ⟨("_law_step_right", none), "_law_step_right", "_law_step_right", defArgs s_L_step_right, defBody s_L_step_right, defScope s_L_step_right, [], []⟩
def d_L_great_right : He.DefD := ⟨("_law_great_right", none), "_law_great_right", "_law_great_right", defArgs s_L_great_right, defBody s_L_great_right, defScope s_L_great_right, [], []⟩
def d_L_small_right : He.DefD := ⟨("_law_small_right", none), "_law_small_right", "_law_small_right", defArgs s_L_small_right, defBody s_L_small_right, defScope s_L_small_right, [], []⟩
def d_law : He.DefD := ⟨("law", none), "law", "law", defArgs s_law, defBody s_law, defScope s_law, [], []⟩
def fn : List He.DefD := [d_is_int, d_is_whole, d_TooLarge___init__, d_TooDeep___init__, d_require_length, d_require_slots, d_require_task, d_reach_of, d_rounds_of, d_closed_count, d_halves_of, d_own_operations, d_count_of, d_parts_of, d_whole_plan, d_row_operation, d_operation_of, d_Moment___init__, d_Moment_go, d_Moment_keep, d_Moment_take, d_Moment_free_last, d_Moment_pass_part, d_Moment_pass_row, d_Moment_told, d_moment_of, d_operation_count, d_operation_at, d_moment, d_back_at, d_goes_of, d_asked_goes, d_times_done, d_go_at, d_most_repeated, d_steps_with, d_least_of, d_least_steps, d_step_times, d_L_bag, d_L_pick, d_L_reach, d_L_rounds, d_L_least, d_L_deep, d_L_step_right, d_L_great_right, d_L_small_right, d_law]
def fa : List He.Fa := [.glo "is_int", .glo "is_whole", .glo "require_length", .glo "require_slots", .glo "require_task", .glo "reach_of", .glo "rounds_of", .glo "closed_count", .glo "halves_of", .glo "own_operations", .glo "count_of", .glo "parts_of", .glo "whole_plan", .glo "row_operation", .glo "operation_of", .glo "moment_of", .glo "operation_count", .glo "operation_at", .glo "moment", .glo "back_at", .glo "goes_of", .glo "asked_goes", .glo "times_done", .glo "go_at", .glo "most_repeated", .glo "steps_with", .glo "least_of", .glo "least_steps", .glo "step_times", .glo "_law_bag", .glo "_law_pick", .glo "_law_reach", .glo "_law_rounds", .glo "_law_least", .glo "_law_deep", .glo "_law_step_right", .glo "_law_great_right", .glo "_law_small_right", .glo "law", .free "isinstance", .free "int", .free "bool", .free "range", .free "min", .free "divmod", .free "list", .free "sum", .free "max", .free "sorted", .free "set", .free "zip", .free "len", .int "MOST_LENGTH" (1000000000000000000000000000000), .int "MOST_SLOTS" (100), .int "MOST_ROUNDS" (1000), .glo "Moment", .cls "Moment", .noat "Moment" "own_hand", .noat "Moment" "own_kept", .noat "Moment" "own_steps", .noat "Moment" "own_backs", .mkr "Moment", .meth "Moment" "go", .meth "Moment" "keep", .meth "Moment" "take", .meth "Moment" "free_last", .meth "Moment" "pass_part", .meth "Moment" "pass_row", .meth "Moment" "told"]
abbrev RowR : PySem.W.OpenRow := PySem.W.OpenLaw.row PySem.Challenge.rw_backslots_k39_whole_moments_add_up
def cs : List (PySem.W.Frag → Bool) := [errIB [4, 5, 7, 8, 10, 11, 12, 17], sysB, fun K => initB K 4 "limit", fun K => initB K 5 "rounds"]
abbrev hk : PySem.W.Hook := hookX 5 cs fa fn
def ob (s : PySem.W.SharedT) : Bool × He.AlD := obX 5 cs fa fn (HandSHeadRun.getT s)
theorem ob_eq (s : PySem.W.SharedT) : ob s = hk.obs s.abs := obX_eq (HandSHeadRun.getT_eq s)
def loose : List Str := (["is_int", "is_whole", "SlotError", "TooLarge", "TooDeep", "InvalidLength", "InvalidSlots", "InvalidState", "InvalidStep", "InvalidNumber", "MOST_LENGTH", "MOST_SLOTS", "MOST_ROUNDS", "require_length", "require_slots", "require_task", "reach_of", "rounds_of", "closed_count", "halves_of", "own_operations", "count_of", "parts_of", "whole_plan", "row_operation", "operation_of", "Moment", "moment_of", "operation_count", "operation_at"] : List Str) ++ (["moment", "back_at", "goes_of", "asked_goes", "times_done", "go_at", "most_repeated", "steps_with", "least_of", "least_steps", "step_times", "_law_bag", "_law_pick", "_law_reach", "_law_rounds", "_law_least", "_law_deep", "_law_step_right", "_law_great_right", "_law_small_right"] : List Str)
theorem run (w : World) : HandSHeadRun.RunEq RowR (PySem.W.view RowR.prog [57]) hk ob 40000 loose w := by
  intro os
  kernel_rfl
theorem facts {P : Program} {w : World} {K : PySem.W.Frag} {h : Heap} {mg : Str → Option Value} {f : Addr} (X : K.In h) (G : h.Ns mainGlobals mg) (hfa : mg ("law" : Str) = some (.ref f)) (c0 : (cs.all fun c => c K) = true) (c : He.SaysD fa fn K) :
    ∃ fd : FuncData, (∀ (s : Shared) (v : Value), BindsTo s fd ⟨[v], []⟩ [("_law_script", v)]) ∧ ∀ base : Heap, K.In base → base.Ns mainGlobals mg → GOk P w K mg base (L2.CX P w) 10 f fd ["_law_script"] (sp_law K) := by
  obtain ⟨fd_is_int, F_is_int⟩ := c.def_ 0 (d := d_is_int) rfl
  have b_is_int : Binds K fd_is_int ["value"] [] := F_is_int.bindsN fun _ _ _ _ _ _ us hl => match us, hl with | [_], _ => rfl
  obtain ⟨fd_is_whole, F_is_whole⟩ := c.def_ 1 (d := d_is_whole) rfl
  have b_is_whole : Binds K fd_is_whole ["value", "low", "high"] [] := F_is_whole.bindsN fun _ _ _ _ _ _ us hl => match us, hl with | [_, _, _], _ => rfl
  obtain ⟨fd_TooLarge___init__, F_TooLarge___init__⟩ := c.def_ 2 (d := d_TooLarge___init__) rfl
  have b_TooLarge___init__ : Binds K fd_TooLarge___init__ ["self", "limit"] [] := F_TooLarge___init__.bindsN fun _ _ _ _ _ _ us hl => match us, hl with | [_, _], _ => rfl
  obtain ⟨fd_TooDeep___init__, F_TooDeep___init__⟩ := c.def_ 3 (d := d_TooDeep___init__) rfl
  have b_TooDeep___init__ : Binds K fd_TooDeep___init__ ["self", "rounds"] [] := F_TooDeep___init__.bindsN fun _ _ _ _ _ _ us hl => match us, hl with | [_, _], _ => rfl
  obtain ⟨fd_require_length, F_require_length⟩ := c.def_ 4 (d := d_require_length) rfl
  have b_require_length : Binds K fd_require_length ["value"] [] := F_require_length.bindsN fun _ _ _ _ _ _ us hl => match us, hl with | [_], _ => rfl
  obtain ⟨fd_require_slots, F_require_slots⟩ := c.def_ 5 (d := d_require_slots) rfl
  have b_require_slots : Binds K fd_require_slots ["value"] [] := F_require_slots.bindsN fun _ _ _ _ _ _ us hl => match us, hl with | [_], _ => rfl
  obtain ⟨fd_require_task, F_require_task⟩ := c.def_ 6 (d := d_require_task) rfl
  have b_require_task : Binds K fd_require_task ["length", "slots"] [] := F_require_task.bindsN fun _ _ _ _ _ _ us hl => match us, hl with | [_, _], _ => rfl
  obtain ⟨fd_reach_of, F_reach_of⟩ := c.def_ 7 (d := d_reach_of) rfl
  have b_reach_of : Binds K fd_reach_of ["slots", "rounds"] [] := F_reach_of.bindsN fun _ _ _ _ _ _ us hl => match us, hl with | [_, _], _ => rfl
  obtain ⟨fd_rounds_of, F_rounds_of⟩ := c.def_ 8 (d := d_rounds_of) rfl
  have b_rounds_of : Binds K fd_rounds_of ["length", "slots"] [] := F_rounds_of.bindsN fun _ _ _ _ _ _ us hl => match us, hl with | [_, _], _ => rfl
  obtain ⟨fd_closed_count, F_closed_count⟩ := c.def_ 9 (d := d_closed_count) rfl
  have b_closed_count : Binds K fd_closed_count ["some"] [] := F_closed_count.bindsN fun _ _ _ _ _ _ us hl => match us, hl with | [_], _ => rfl
  obtain ⟨fd_halves_of, F_halves_of⟩ := c.def_ 10 (d := d_halves_of) rfl
  have b_halves_of : Binds K fd_halves_of ["some"] [] := F_halves_of.bindsN fun _ _ _ _ _ _ us hl => match us, hl with | [_], _ => rfl
  obtain ⟨fd_own_operations, F_own_operations⟩ := c.def_ 11 (d := d_own_operations) rfl
  have b_own_operations : Binds K fd_own_operations ["behind"] [] := F_own_operations.bindsN fun _ _ _ _ _ _ us hl => match us, hl with | [_], _ => rfl
  obtain ⟨fd_count_of, F_count_of⟩ := c.def_ 12 (d := d_count_of) rfl
  have b_count_of : Binds K fd_count_of ["some"] [] := F_count_of.bindsN fun _ _ _ _ _ _ us hl => match us, hl with | [_], _ => rfl
  obtain ⟨fd_parts_of, F_parts_of⟩ := c.def_ 13 (d := d_parts_of) rfl
  have b_parts_of : Binds K fd_parts_of ["part"] [] := F_parts_of.bindsN fun _ _ _ _ _ _ us hl => match us, hl with | [_], _ => rfl
  obtain ⟨fd_whole_plan, F_whole_plan⟩ := c.def_ 14 (d := d_whole_plan) rfl
  have b_whole_plan : Binds K fd_whole_plan ["length", "slots"] [] := F_whole_plan.bindsN fun _ _ _ _ _ _ us hl => match us, hl with | [_, _], _ => rfl
  obtain ⟨fd_row_operation, F_row_operation⟩ := c.def_ 15 (d := d_row_operation) rfl
  have b_row_operation : Binds K fd_row_operation ["part", "number"] [] := F_row_operation.bindsN fun _ _ _ _ _ _ us hl => match us, hl with | [_, _], _ => rfl
  obtain ⟨fd_operation_of, F_operation_of⟩ := c.def_ 16 (d := d_operation_of) rfl
  have b_operation_of : Binds K fd_operation_of ["plan", "number"] [] := F_operation_of.bindsN fun _ _ _ _ _ _ us hl => match us, hl with | [_, _], _ => rfl
  obtain ⟨fd_Moment___init__, F_Moment___init__⟩ := c.def_ 17 (d := d_Moment___init__) rfl
  have b_Moment___init__ : Binds K fd_Moment___init__ ["self"] [] := F_Moment___init__.bindsN fun _ _ _ _ _ _ us hl => match us, hl with | [_], _ => rfl
  obtain ⟨fd_Moment_go, F_Moment_go⟩ := c.def_ 18 (d := d_Moment_go) rfl
  have b_Moment_go : Binds K fd_Moment_go ["self", "state", "steps"] [] := F_Moment_go.bindsN fun _ _ _ _ _ _ us hl => match us, hl with | [_, _, _], _ => rfl
  obtain ⟨fd_Moment_keep, F_Moment_keep⟩ := c.def_ 19 (d := d_Moment_keep) rfl
  have b_Moment_keep : Binds K fd_Moment_keep ["self", "state"] [] := F_Moment_keep.bindsN fun _ _ _ _ _ _ us hl => match us, hl with | [_, _], _ => rfl
  obtain ⟨fd_Moment_take, F_Moment_take⟩ := c.def_ 20 (d := d_Moment_take) rfl
  have b_Moment_take : Binds K fd_Moment_take ["self", "state"] [] := F_Moment_take.bindsN fun _ _ _ _ _ _ us hl => match us, hl with | [_, _], _ => rfl
  obtain ⟨fd_Moment_free_last, F_Moment_free_last⟩ := c.def_ 21 (d := d_Moment_free_last) rfl
  have b_Moment_free_last : Binds K fd_Moment_free_last ["self"] [] := F_Moment_free_last.bindsN fun _ _ _ _ _ _ us hl => match us, hl with | [_], _ => rfl
  obtain ⟨fd_Moment_pass_part, F_Moment_pass_part⟩ := c.def_ 22 (d := d_Moment_pass_part) rfl
  have b_Moment_pass_part : Binds K fd_Moment_pass_part ["self", "part"] [] := F_Moment_pass_part.bindsN fun _ _ _ _ _ _ us hl => match us, hl with | [_, _], _ => rfl
  obtain ⟨fd_Moment_pass_row, F_Moment_pass_row⟩ := c.def_ 23 (d := d_Moment_pass_row) rfl
  have b_Moment_pass_row : Binds K fd_Moment_pass_row ["self", "part", "many"] [] := F_Moment_pass_row.bindsN fun _ _ _ _ _ _ us hl => match us, hl with | [_, _, _], _ => rfl
  obtain ⟨fd_Moment_told, F_Moment_told⟩ := c.def_ 24 (d := d_Moment_told) rfl
  have b_Moment_told : Binds K fd_Moment_told ["self"] [] := F_Moment_told.bindsN fun _ _ _ _ _ _ us hl => match us, hl with | [_], _ => rfl
  obtain ⟨fd_moment_of, F_moment_of⟩ := c.def_ 25 (d := d_moment_of) rfl
  have b_moment_of : Binds K fd_moment_of ["plan", "number"] [] := F_moment_of.bindsN fun _ _ _ _ _ _ us hl => match us, hl with | [_, _], _ => rfl
  obtain ⟨fd_operation_count, F_operation_count⟩ := c.def_ 26 (d := d_operation_count) rfl
  have b_operation_count : Binds K fd_operation_count ["length", "slots"] [] := F_operation_count.bindsN fun _ _ _ _ _ _ us hl => match us, hl with | [_, _], _ => rfl
  obtain ⟨fd_operation_at, F_operation_at⟩ := c.def_ 27 (d := d_operation_at) rfl
  have b_operation_at : Binds K fd_operation_at ["length", "slots", "number"] [] := F_operation_at.bindsN fun _ _ _ _ _ _ us hl => match us, hl with | [_, _, _], _ => rfl
  obtain ⟨fd_moment, F_moment⟩ := c.def_ 28 (d := d_moment) rfl
  have b_moment : Binds K fd_moment ["length", "slots", "number"] [] := F_moment.bindsN fun _ _ _ _ _ _ us hl => match us, hl with | [_, _, _], _ => rfl
  obtain ⟨fd_back_at, F_back_at⟩ := c.def_ 29 (d := d_back_at) rfl
  have b_back_at : Binds K fd_back_at ["length", "slots", "state"] [] := F_back_at.bindsN fun _ _ _ _ _ _ us hl => match us, hl with | [_, _, _], _ => rfl
  obtain ⟨fd_goes_of, F_goes_of⟩ := c.def_ 30 (d := d_goes_of) rfl
  have b_goes_of : Binds K fd_goes_of ["plan", "step"] [] := F_goes_of.bindsN fun _ _ _ _ _ _ us hl => match us, hl with | [_, _], _ => rfl
  obtain ⟨fd_asked_goes, F_asked_goes⟩ := c.def_ 31 (d := d_asked_goes) rfl
  have b_asked_goes : Binds K fd_asked_goes ["length", "slots", "step"] [] := F_asked_goes.bindsN fun _ _ _ _ _ _ us hl => match us, hl with | [_, _, _], _ => rfl
  obtain ⟨fd_times_done, F_times_done⟩ := c.def_ 32 (d := d_times_done) rfl
  have b_times_done : Binds K fd_times_done ["length", "slots", "step"] [] := F_times_done.bindsN fun _ _ _ _ _ _ us hl => match us, hl with | [_, _, _], _ => rfl
  obtain ⟨fd_go_at, F_go_at⟩ := c.def_ 33 (d := d_go_at) rfl
  have b_go_at : Binds K fd_go_at ["length", "slots", "step", "number"] [] := F_go_at.bindsN fun _ _ _ _ _ _ us hl => match us, hl with | [_, _, _, _], _ => rfl
  obtain ⟨fd_most_repeated, F_most_repeated⟩ := c.def_ 34 (d := d_most_repeated) rfl
  have b_most_repeated : Binds K fd_most_repeated ["length", "slots"] [] := F_most_repeated.bindsN fun _ _ _ _ _ _ us hl => match us, hl with | [_, _], _ => rfl
  obtain ⟨fd_steps_with, F_steps_with⟩ := c.def_ 35 (d := d_steps_with) rfl
  have b_steps_with : Binds K fd_steps_with ["length", "slots", "rounds"] [] := F_steps_with.bindsN fun _ _ _ _ _ _ us hl => match us, hl with | [_, _, _], _ => rfl
  obtain ⟨fd_least_of, F_least_of⟩ := c.def_ 36 (d := d_least_of) rfl
  have b_least_of : Binds K fd_least_of ["length", "slots"] [] := F_least_of.bindsN fun _ _ _ _ _ _ us hl => match us, hl with | [_, _], _ => rfl
  obtain ⟨fd_least_steps, F_least_steps⟩ := c.def_ 37 (d := d_least_steps) rfl
  have b_least_steps : Binds K fd_least_steps ["length", "slots"] [] := F_least_steps.bindsN fun _ _ _ _ _ _ us hl => match us, hl with | [_, _], _ => rfl
  obtain ⟨fd_step_times, F_step_times⟩ := c.def_ 38 (d := d_step_times) rfl
  have b_step_times : Binds K fd_step_times ["length", "slots"] [] := F_step_times.bindsN fun _ _ _ _ _ _ us hl => match us, hl with | [_, _], _ => rfl
  obtain ⟨fd_L_bag, F_L_bag⟩ := c.def_ 39 (d := d_L_bag) rfl
  have b_L_bag : Binds K fd_L_bag ["_law_cell"] [] := F_L_bag.bindsN fun _ _ _ _ _ _ us hl => match us, hl with | [_], _ => rfl
  obtain ⟨fd_L_pick, F_L_pick⟩ := c.def_ 40 (d := d_L_pick) rfl
  have b_L_pick : Binds K fd_L_pick ["_law_bag_here", "_law_many"] [] := F_L_pick.bindsN fun _ _ _ _ _ _ us hl => match us, hl with | [_, _], _ => rfl
  obtain ⟨fd_L_reach, F_L_reach⟩ := c.def_ 41 (d := d_L_reach) rfl
  have b_L_reach : Binds K fd_L_reach ["_law_slots", "_law_rounds_here"] [] := F_L_reach.bindsN fun _ _ _ _ _ _ us hl => match us, hl with | [_, _], _ => rfl
  obtain ⟨fd_L_rounds, F_L_rounds⟩ := c.def_ 42 (d := d_L_rounds) rfl
  have b_L_rounds : Binds K fd_L_rounds ["_law_length", "_law_slots"] [] := F_L_rounds.bindsN fun _ _ _ _ _ _ us hl => match us, hl with | [_, _], _ => rfl
  obtain ⟨fd_L_least, F_L_least⟩ := c.def_ 43 (d := d_L_least) rfl
  have b_L_least : Binds K fd_L_least ["_law_length", "_law_slots"] [] := F_L_least.bindsN fun _ _ _ _ _ _ us hl => match us, hl with | [_, _], _ => rfl
  obtain ⟨fd_L_deep, F_L_deep⟩ := c.def_ 44 (d := d_L_deep) rfl
  have b_L_deep : Binds K fd_L_deep ["_law_bag_here"] [] := F_L_deep.bindsN fun _ _ _ _ _ _ us hl => match us, hl with | [_], _ => rfl
  obtain ⟨fd_L_step_right, F_L_step_right⟩ := c.def_ 45 (d := d_L_step_right) rfl
  have b_L_step_right : Binds K fd_L_step_right ["_law_bag_here", "_law_length", "_law_slots"] [] := F_L_step_right.bindsN fun _ _ _ _ _ _ us hl => match us, hl with | [_, _, _], _ => rfl
  obtain ⟨fd_L_great_right, F_L_great_right⟩ := c.def_ 46 (d := d_L_great_right) rfl
  have b_L_great_right : Binds K fd_L_great_right ["_law_bag_here"] [] := F_L_great_right.bindsN fun _ _ _ _ _ _ us hl => match us, hl with | [_], _ => rfl
  obtain ⟨fd_L_small_right, F_L_small_right⟩ := c.def_ 47 (d := d_L_small_right) rfl
  have b_L_small_right : Binds K fd_L_small_right ["_law_bag_here"] [] := F_L_small_right.bindsN fun _ _ _ _ _ _ us hl => match us, hl with | [_], _ => rfl
  obtain ⟨fd_law, F_law⟩ := c.def_ 48 (d := d_law) rfl
  have b_law : Binds K fd_law ["_law_script"] [] := F_law.bindsN fun _ _ _ _ _ _ us hl => match us, hl with | [_], _ => rfl
  have e := hfa.symm.trans (He.glo_ok X G (c.fact 38 (f := .glo "law") rfl))
  cases e
  obtain ⟨t_MOST_LENGTH, c_MOST_LENGTH⟩ := He.int_ok X G (c.fact 52 (f := .int "MOST_LENGTH" (1000000000000000000000000000000)) rfl)
  obtain ⟨t_MOST_SLOTS, c_MOST_SLOTS⟩ := He.int_ok X G (c.fact 53 (f := .int "MOST_SLOTS" (100)) rfl)
  obtain ⟨t_MOST_ROUNDS, c_MOST_ROUNDS⟩ := He.int_ok X G (c.fact 54 (f := .int "MOST_ROUNDS" (1000)) rfl)
  have b := FunD.bindsA (ps := ["_law_script"]) F_law fun _ _ _ _ _ _ us hl => match us, hl with | [_], _ => rfl
  exact ⟨fd_law, fun s v => b s [v] rfl, fun base _ _ => gok_fn (ok_law ⟨_,
    fd_is_int,
    F_is_int,
    b_is_int,
    He.glo_ok X G (c.fact 0 (f := .glo "is_int") rfl),
    _,
    fd_is_whole,
    F_is_whole,
    b_is_whole,
    He.glo_ok X G (c.fact 1 (f := .glo "is_whole") rfl),
    _,
    fd_TooLarge___init__,
    F_TooLarge___init__,
    b_TooLarge___init__,
    _,
    fd_TooDeep___init__,
    F_TooDeep___init__,
    b_TooDeep___init__,
    _,
    fd_require_length,
    F_require_length,
    b_require_length,
    He.glo_ok X G (c.fact 2 (f := .glo "require_length") rfl),
    _,
    fd_require_slots,
    F_require_slots,
    b_require_slots,
    He.glo_ok X G (c.fact 3 (f := .glo "require_slots") rfl),
    _,
    fd_require_task,
    F_require_task,
    b_require_task,
    He.glo_ok X G (c.fact 4 (f := .glo "require_task") rfl),
    _,
    fd_reach_of,
    F_reach_of,
    b_reach_of,
    He.glo_ok X G (c.fact 5 (f := .glo "reach_of") rfl),
    _,
    fd_rounds_of,
    F_rounds_of,
    b_rounds_of,
    He.glo_ok X G (c.fact 6 (f := .glo "rounds_of") rfl),
    _,
    fd_closed_count,
    F_closed_count,
    b_closed_count,
    He.glo_ok X G (c.fact 7 (f := .glo "closed_count") rfl),
    _,
    fd_halves_of,
    F_halves_of,
    b_halves_of,
    He.glo_ok X G (c.fact 8 (f := .glo "halves_of") rfl),
    _,
    fd_own_operations,
    F_own_operations,
    b_own_operations,
    He.glo_ok X G (c.fact 9 (f := .glo "own_operations") rfl),
    _,
    fd_count_of,
    F_count_of,
    b_count_of,
    He.glo_ok X G (c.fact 10 (f := .glo "count_of") rfl),
    _,
    fd_parts_of,
    F_parts_of,
    b_parts_of,
    He.glo_ok X G (c.fact 11 (f := .glo "parts_of") rfl),
    _,
    fd_whole_plan,
    F_whole_plan,
    b_whole_plan,
    He.glo_ok X G (c.fact 12 (f := .glo "whole_plan") rfl),
    _,
    fd_row_operation,
    F_row_operation,
    b_row_operation,
    He.glo_ok X G (c.fact 13 (f := .glo "row_operation") rfl),
    _,
    fd_operation_of,
    F_operation_of,
    b_operation_of,
    He.glo_ok X G (c.fact 14 (f := .glo "operation_of") rfl),
    _,
    fd_Moment___init__,
    F_Moment___init__,
    b_Moment___init__,
    _,
    fd_Moment_go,
    F_Moment_go,
    b_Moment_go,
    _,
    fd_Moment_keep,
    F_Moment_keep,
    b_Moment_keep,
    _,
    fd_Moment_take,
    F_Moment_take,
    b_Moment_take,
    _,
    fd_Moment_free_last,
    F_Moment_free_last,
    b_Moment_free_last,
    _,
    fd_Moment_pass_part,
    F_Moment_pass_part,
    b_Moment_pass_part,
    _,
    fd_Moment_pass_row,
    F_Moment_pass_row,
    b_Moment_pass_row,
    _,
    fd_Moment_told,
    F_Moment_told,
    b_Moment_told,
    _,
    fd_moment_of,
    F_moment_of,
    b_moment_of,
    He.glo_ok X G (c.fact 15 (f := .glo "moment_of") rfl),
    _,
    fd_operation_count,
    F_operation_count,
    b_operation_count,
    He.glo_ok X G (c.fact 16 (f := .glo "operation_count") rfl),
    _,
    fd_operation_at,
    F_operation_at,
    b_operation_at,
    He.glo_ok X G (c.fact 17 (f := .glo "operation_at") rfl),
    _,
    fd_moment,
    F_moment,
    b_moment,
    He.glo_ok X G (c.fact 18 (f := .glo "moment") rfl),
    _,
    fd_back_at,
    F_back_at,
    b_back_at,
    He.glo_ok X G (c.fact 19 (f := .glo "back_at") rfl),
    _,
    fd_goes_of,
    F_goes_of,
    b_goes_of,
    He.glo_ok X G (c.fact 20 (f := .glo "goes_of") rfl),
    _,
    fd_asked_goes,
    F_asked_goes,
    b_asked_goes,
    He.glo_ok X G (c.fact 21 (f := .glo "asked_goes") rfl),
    _,
    fd_times_done,
    F_times_done,
    b_times_done,
    He.glo_ok X G (c.fact 22 (f := .glo "times_done") rfl),
    _,
    fd_go_at,
    F_go_at,
    b_go_at,
    He.glo_ok X G (c.fact 23 (f := .glo "go_at") rfl),
    _,
    fd_most_repeated,
    F_most_repeated,
    b_most_repeated,
    He.glo_ok X G (c.fact 24 (f := .glo "most_repeated") rfl),
    _,
    fd_steps_with,
    F_steps_with,
    b_steps_with,
    He.glo_ok X G (c.fact 25 (f := .glo "steps_with") rfl),
    _,
    fd_least_of,
    F_least_of,
    b_least_of,
    He.glo_ok X G (c.fact 26 (f := .glo "least_of") rfl),
    _,
    fd_least_steps,
    F_least_steps,
    b_least_steps,
    He.glo_ok X G (c.fact 27 (f := .glo "least_steps") rfl),
    _,
    fd_step_times,
    F_step_times,
    b_step_times,
    He.glo_ok X G (c.fact 28 (f := .glo "step_times") rfl),
    _,
    fd_L_bag,
    F_L_bag,
    b_L_bag,
    He.glo_ok X G (c.fact 29 (f := .glo "_law_bag") rfl),
    _,
    fd_L_pick,
    F_L_pick,
    b_L_pick,
    He.glo_ok X G (c.fact 30 (f := .glo "_law_pick") rfl),
    _,
    fd_L_reach,
    F_L_reach,
    b_L_reach,
    He.glo_ok X G (c.fact 31 (f := .glo "_law_reach") rfl),
    _,
    fd_L_rounds,
    F_L_rounds,
    b_L_rounds,
    He.glo_ok X G (c.fact 32 (f := .glo "_law_rounds") rfl),
    _,
    fd_L_least,
    F_L_least,
    b_L_least,
    He.glo_ok X G (c.fact 33 (f := .glo "_law_least") rfl),
    _,
    fd_L_deep,
    F_L_deep,
    b_L_deep,
    He.glo_ok X G (c.fact 34 (f := .glo "_law_deep") rfl),
    _,
    fd_L_step_right,
    F_L_step_right,
    b_L_step_right,
    He.glo_ok X G (c.fact 35 (f := .glo "_law_step_right") rfl),
    _,
    fd_L_great_right,
    F_L_great_right,
    b_L_great_right,
    He.glo_ok X G (c.fact 36 (f := .glo "_law_great_right") rfl),
    _,
    fd_L_small_right,
    F_L_small_right,
    b_L_small_right,
    He.glo_ok X G (c.fact 37 (f := .glo "_law_small_right") rfl),
    _,
    fd_law,
    F_law,
    b_law,
    He.glo_ok X G (c.fact 38 (f := .glo "law") rfl),
    He.free_ok X G (c.fact 39 (f := .free "isinstance") rfl),
    He.free_ok X G (c.fact 40 (f := .free "int") rfl),
    He.free_ok X G (c.fact 41 (f := .free "bool") rfl),
    He.free_ok X G (c.fact 42 (f := .free "range") rfl),
    He.free_ok X G (c.fact 43 (f := .free "min") rfl),
    He.free_ok X G (c.fact 44 (f := .free "divmod") rfl),
    He.free_ok X G (c.fact 45 (f := .free "list") rfl),
    He.free_ok X G (c.fact 46 (f := .free "sum") rfl),
    He.free_ok X G (c.fact 47 (f := .free "max") rfl),
    He.free_ok X G (c.fact 48 (f := .free "sorted") rfl),
    He.free_ok X G (c.fact 49 (f := .free "set") rfl),
    He.free_ok X G (c.fact 50 (f := .free "zip") rfl),
    He.free_ok X G (c.fact 51 (f := .free "len") rfl),
    t_MOST_LENGTH,
    c_MOST_LENGTH,
    t_MOST_SLOTS,
    c_MOST_SLOTS,
    t_MOST_ROUNDS,
    c_MOST_ROUNDS,
    errI_ok X G (List.all_eq_true.mp c0 _ (List.mem_of_getElem? (i := 0) rfl)),
    List.all_eq_true.mp c0 _ (List.mem_of_getElem? (i := 1) rfl),
    He.cls_ok (c.fact 56 (f := .cls "Moment") rfl),
    He.glo_ok X G (c.fact 55 (f := .glo "Moment") rfl),
    He.noat_ok (c.fact 57 (f := .noat "Moment" "own_hand") rfl),
    He.noat_ok (c.fact 58 (f := .noat "Moment" "own_kept") rfl),
    He.noat_ok (c.fact 59 (f := .noat "Moment" "own_steps") rfl),
    He.noat_ok (c.fact 60 (f := .noat "Moment" "own_backs") rfl),
    He.mkr_ok (c.fact 61 (f := .mkr "Moment") rfl),
    He.meth_ok (c.fact 62 (f := .meth "Moment" "go") rfl),
    He.meth_ok (c.fact 63 (f := .meth "Moment" "keep") rfl),
    He.meth_ok (c.fact 64 (f := .meth "Moment" "take") rfl),
    He.meth_ok (c.fact 65 (f := .meth "Moment" "free_last") rfl),
    He.meth_ok (c.fact 66 (f := .meth "Moment" "pass_part") rfl),
    He.meth_ok (c.fact 67 (f := .meth "Moment" "pass_row") rfl),
    He.meth_ok (c.fact 68 (f := .meth "Moment" "told") rfl),
    initB_ok (List.all_eq_true.mp c0 _ (List.mem_of_getElem? (i := 2) rfl)),
    initB_ok (List.all_eq_true.mp c0 _ (List.mem_of_getElem? (i := 3) rfl))⟩)⟩
end Bs
open PySem PySem.W PySem.Calls PyProof.Rows
theorem PySem.Challenge.cw_backslots_k39_whole_moments_add_up_holds : PySem.Challenge.rw_backslots_k39_whole_moments_add_up.Holds := by
  w_on; o_law
  refine HandSHeadRun.head_any (r := OpenLaw.row PySem.Challenge.rw_backslots_k39_whole_moments_add_up) (q := view (OpenLaw.row PySem.Challenge.rw_backslots_k39_whole_moments_add_up).prog [57]) (H := Bs.hk) (ob := Bs.ob) (M := 40000) (loose := Bs.loose) (d := HandSHeadRun.topDef (OpenLaw.row PySem.Challenge.rw_backslots_k39_whole_moments_add_up).prog 57) (kwd := []) Bs.ob_eq
    (by kernel_rfl) (fun s => by kernel_rfl) Bs.run (by kernel_rfl) (by kernel_rfl) (by kernel_rfl) (by rfl) (by first | assumption | decide +kernel) (by decide +kernel) ⟨rfl, rfl, rfl, rfl, rfl, by decide +kernel⟩ ?hw ?hc
  case hw => w_witness2
  case hc =>
    refine Bs.walk_g (l := PySem.Challenge.rw_backslots_k39_whole_moments_add_up) (n := 63) (k := 10) (x := "_law_script") rfl (by decide) (by kernel_rfl) ⟨rfl, by decide, by decide⟩ ?F
    intro w mg fa h Y G hmg0
    obtain ⟨K, KX, c0, c⟩ := Y
    have hmg : mg ("law" : PySem.Str) = some (.ref fa) := by
      have e : (HandSHeadRun.topDef (OpenLaw.row PySem.Challenge.rw_backslots_k39_whole_moments_add_up).prog 57).name = ("law" : PySem.Str) := by kernel_rfl
      rw [← e]
      exact hmg0
    obtain ⟨fd, hb, hF⟩ := Bs.facts (P := (PySem.Challenge.rw_backslots_k39_whole_moments_add_up).prog) (w := w) KX G hmg c0 c
    exact ⟨K, fd, Bs.sp_law K, KX, hb, fun H a ns hl hO hS => Bs.law_in hl hS fun _ => rfl, hF⟩
