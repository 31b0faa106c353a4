import PyProof.Rows.All
import Wide.All
import OpenK.AllK
import Wide.FinOn
import KE.KStateDown
import Lean
import HandS.ForMost
import HandS.Exc
import HandS.TryOnly
import HandS.ExcOwn
import HandS.WordsExc
import HandS.Wide
import HandS.IsInst
import HandS.Evl
import HandS.SortInts
import HandS.Small
import HandS.Defaults
import HandS.Head0
import HandS.Head1
import HandS.Head2
import HandS.HeadEnd
import HandS.HeadHook1
import HandS.HeadHook2
import PyProof.ReprRoads
import PySem.Challenge.RW_backslots_k02_rounds_and_slots
set_option Elab.async false
set_option linter.all false
set_option maxRecDepth 100000
set_option maxHeartbeats 4000000
namespace Bs
open PySem PySem.Spec PyProof.Rows L2
open Evl (Ex)

/-! ### a def without defaults -/
abbrev FnP (K : PySem.W.Frag) (x q : Str) (st : Stmt) (f : Addr) (fd : FuncData) : Prop := FunD K x q (defArgs st) (defBody st) (defScope st) [] [] f fd

/-! ### heaps that grow -/
theorem exn {H : Hp} {p : Addr} {o : HO} (h : H p = none) : Ex H (upd H p o) := Ex.new h
theorem dp_ex {K : PySem.W.Frag} {H H' : Hp} (e : Ex H H') : ∀ (d : PyData) (v : V), Dp K H v d → Dp K H' v d
  | .none, _, .non => .non
  | .bool _, _, .bl b => .bl b
  | .int _, _, .int i => .int i
  | .str _, _, .str x => .str x
  | .list ds, _, .lst h a => .lst (Evl.ex_l e h) (go ds _ a)
  | .tuple ds, _, .tup h a => .tup (Evl.ex_t e h) (go ds _ a)
where go : ∀ (ds : List PyData) (vs : List V), DpAll K H vs ds → DpAll K H' vs ds
  | [], _, .nil => .nil
  | d :: ds, _, .cons h r => .cons (dp_ex e d _ h) (go ds _ r)

/-! ### defs called where no repr is under way -/
abbrev Clean (A : Around) : Prop := A.guards = some []
/-- as FnOk, where no repr is under way -/
structure GOk (P : Program) (w : World) (K : PySem.W.Frag) (mg : Str → Option Value) (base : Heap)
    (C : CXT) (k : Nat) (f : Addr) (fd : FuncData) (ps : List Str) (sp : Sp) : Prop where
  arity : ∀ vs H Q E, sp vs H Q E → vs.length = ps.length
  go : ∀ (A : Around) (fr : List Env) (s : Shared) (H : Hp) (args : Args) (us : List Value) (vs : List V) (Q : VK) (E : XK),
    Room k A → Clean A → Env0 P w K mg base A fr s H → BindsTo s fd args (ps.zip us) → Vals vs us →
    sp vs H Q E → codeAny (model P w) A (.call (.ref f) args) (CR C fr P w H s Q E) s
section
variable {P : Program} {w : World} {K : PySem.W.Frag} {mg : Str → Option Value} {base : Heap} {C : CXT} {k j : Nat}
  {f : Addr} {fd : FuncData} {ps N : List Str} {sp sp' : Sp}
theorem GOk.up (F : GOk P w K mg base C j f fd ps sp) (h : j ≤ k) : GOk P w K mg base C k f fd ps sp :=
  ⟨F.arity, fun A fr s H args us vs Q E r => F.go A fr s H args us vs Q E (r.mono h)⟩
theorem GOk.weak (F : GOk P w K mg base C k f fd ps sp) (h : ∀ vs H Q E, sp' vs H Q E → sp vs H Q E) : GOk P w K mg base C k f fd ps sp' :=
  ⟨fun vs H Q E q => F.arity vs H Q E (h _ _ _ _ q), fun A fr s H args us vs Q E r g e b v q => F.go A fr s H args us vs Q E r g e b v (h _ _ _ _ q)⟩
/-- a def by its body, no repr under way -/
theorem gok_of {name qual : Str} {pr : Arguments} {body : List Stmt} {scope : Scope} {dV kV doc pm cdv ct oc : Value} {an od : Option Addr} {osl : Array (Option Value)}
    (lk : K.lookup f = some ⟨oc, od, .func (PySem.W.fnOf name qual pr body scope dV kV doc pm an cdv ct), osl⟩)
    (hcd : PySem.W.codeIn K cdv qual = true) (S : FnScope N ps scope)
    (ar : ∀ vs H Q E, sp vs H Q E → vs.length = ps.length)
    (hb : ∀ (A : Around) (fr : List Env) (s : Shared) (H : Hp) (vs : List V) (Q : VK) (E : XK),
      Room k (A.deeper (envOfC qual scope s.heap.objs.size f cdv)) → Clean A → sp vs H Q E →
      ∃ t, PSs (cxOf C P w K mg base N qual scope f cdv A fr s H E) body t ∧
        t { nx := fun _ H' => Q .non H', rt := Q } (start N vs) H) :
    GOk P w K mg base C (k + 1) f (PySem.W.fnOf name qual pr body scope dV kV doc pm an cdv ct) ps sp := by
  refine ⟨ar, ?_⟩
  intro A fr s H args us vs Q E hr hg e0 bd rv hsp
  have in0 : ∀ b o, base.get? b = some o → s.heap.get? b = some o := fun b o e => (e0.bs b o e).1
  have inK : K.In s.heap := e0.mod.kin.keeps in0
  refine codeAny_call_function hr.depth (inK _ _ lk) rfl S.co S.gen rfl (PySem.W.codeRec_of inK hcd) (bd _ _ _ _ ?_)
  have kinds : ∀ y ∈ ps.zip us, scope.names.lookup y.1 = some .local ∨
      (scope.names.lookup y.1 = some .cell ∧ ((cellsFrom (s.heap.objs.size + 1) scope.names []).lookup y.1).isSome = true) := by
    rintro ⟨n, v⟩ hy
    exact (S.par n (List.of_mem_zip hy).1).imp id fun q => ⟨q, PySem.W.cellsFrom_some _ _ _ (.inl q)⟩
  refine wpAny_newFunctionEnv_cells S.kind kinds ?_
  intro env he s1 x
  subst he
  refine ⟨(e0.mod.nolimit.keeps in0).keeps x.toInCall.keep, codeAny_func ?_⟩
  obtain ⟨t, ht, hq⟩ := hb A fr s H vs Q E (hr.deeper _) hg hsp
  have I0 := inv_start (CX := C) (E := E) S hr.hd e0 (ar _ _ _ _ hsp) rv x
  refine wpAny_mono (ht.run [] s1 (start N vs) H _ I0 hq) ?_ (fun _ _ z => z)
  intro fl s' z
  cases fl with
  | next => obtain ⟨_, H', J, q⟩ := z; exact ⟨.non, H', J.os, J.bare, J.base, J.hok, rfl, q⟩
  | ret u => obtain ⟨v, _, H', J, r, q⟩ := z; exact ⟨v, H', J.os, J.bare, J.base, J.hok, r, q⟩
  | brk => exact z.elim fun _ z => z.elim fun _ z => z.2.elim
  | cont => exact z.elim fun _ z => z.elim fun _ z => z.2.elim
theorem FunD.gok {x qual : Str} {pr : Arguments} {body : List Stmt} {scope : Scope} {dvs : List V} {kws : List (Str × V)}
    (F : FunD K x qual pr body scope dvs kws f fd) (S : FnScope N ps scope) (ar : ∀ vs H Q E, sp vs H Q E → vs.length = ps.length)
    (hb : ∀ (cdv : Value) (A : Around) (fr : List Env) (s : Shared) (H : Hp) (vs : List V) (Q : VK) (E : XK),
      Room k (A.deeper (envOfC qual scope s.heap.objs.size f cdv)) → Clean A → sp vs H Q E →
      ∃ t, PSs (cxOf C P w K mg base N qual scope f cdv A fr s H E) body t ∧
        t { nx := fun _ H' => Q .non H', rt := Q } (start N vs) H) :
    GOk P w K mg base C (k + 1) f fd ps sp := by
  obtain ⟨oc, od, dV, kV, doc, pm, an, cdv, ct, osl, rfl, lk, hcd, _, _⟩ := F.ex
  exact gok_of lk hcd S ar (hb cdv)
end
section
variable {X : Cx} {C : CXT} {k : Nat} {f Cl : Addr} {fd : FuncData} {ps : List Str} {sp : Sp} {dvs : List V} {ds : List Value} {E : XK}
  {x m : Str} {p pos apos : Pos} {e o : Expr} {es : List Expr} {ta : TE} {t : TA}
/-- the callee runs, no repr under way -/
theorem run_g {pins : List (Addr × Obj)} {σ : L2.St} {H : Hp} {s : Shared} {Q : VK} {us : List Value} {vs : List V}
    (F : GOk X.prog X.w X.K X.mg X.base C k f fd ps sp) (hr : Room k X.A) (hc : Clean X.A) (hb : Binds X.K fd ps ds) (hd : Vals dvs ds)
    (hx : Passes C X E) (I : Inv X pins σ H s) (r : Vals vs us) (h : sp (vs ++ dvs) H Q E) :
    wpAny (model X.prog X.w) X.A (call (.ref f) us) (EP X pins σ Q) X.xe s := by
  have rr := r.append hd
  have len : (us ++ ds).length = ps.length := rr.length ▸ F.arity _ _ _ _ h
  have one := F.go X.A X.stack s H ⟨us, []⟩ (us ++ ds) (vs ++ dvs) Q E hr hc I.env0 (hb s us I.kIn len) rr h
  refine wpAny_call (codeAny_mono one ?_)
  rintro (e | fl) s' z
  · exact hx pins σ H s e s' I z
  · cases fl with
    | ret u => exact I.after z
    | _ => exact z.elim
theorem pe_callG (F : GOk X.prog X.w X.K X.mg X.base C k f fd ps sp) (hr : Room k X.A) (hc : Clean X.A) (hg : Gl X x) (hm : X.mg x = some (.ref f))
    (hk : PySem.W.keepIn X.K (.ref f) = true) (hb : Binds X.K fd ps ds) (hd : Vals dvs ds) (hx : Passes C X E) (ha : PA X (e :: es) t)
    (hdb : (x == ("__debug__" : Str)) = false := by decide)
    (he : starEach (e :: es) X.env = (false, eval e X.env) :: starEach es X.env := by rfl)
    (hpl : (backTo pos (starEach es X.env)).any (·.1) = false := by rfl) :
    PE X (.Call (.Name x p) (e :: es) [] pos) (tCall sp dvs E t) :=
  ⟨fun pins s σ H Q I h => wpAny_Call_Name_kw (ld_glob I hg hm (PySem.W.callWith_K (h₀ := X.base) I.ok.mod.kin hk
    (thn (ha.run pos pins s σ H _ I h) fun _ _ ⟨_, _, I1, r, q⟩ => ⟨I1.kIn, run_g F hr hc hb hd hx I1 r q⟩) he hpl) hdb)⟩
theorem pe_callG0 (F : GOk X.prog X.w X.K X.mg X.base C k f fd ps sp) (hr : Room k X.A) (hc : Clean X.A) (hg : Gl X x) (hm : X.mg x = some (.ref f))
    (hk : PySem.W.keepIn X.K (.ref f) = true) (hb : Binds X.K fd ps ds) (hd : Vals dvs ds) (hx : Passes C X E)
    (hdb : (x == ("__debug__" : Str)) = false := by decide) : PE X (.Call (.Name x p) [] [] pos) (tCall sp dvs E tNil) :=
  ⟨fun pins s σ H Q I h => wpAny_Call_Name_kw (ld_glob I hg hm (PySem.W.callWith_K0 I.kIn hk (run_g (us := []) F hr hc hb hd hx I .nil h)) hdb)⟩
end

/-! ### data whose text is no matter -/
mutual
def fine : Nat → PyData → Bool
  | _, .none => true
  | _, .bool _ => true
  | _, .int i => decide (i.natAbs.log2 < 1900)
  | _, .str x => PyData.strOk x
  | n + 1, .list xs => fineAll n xs
  | n + 1, .tuple xs => fineAll n xs
  | 0, .list _ => false
  | 0, .tuple _ => false
  | _, .dict _ => false
def fineAll : Nat → List PyData → Bool
  | _, [] => true
  | n, x :: xs => fine n x && fineAll n xs
end
mutual
def sz : PyData → Nat
  | .none => 5
  | .bool _ => 5
  | .int _ => 2000
  | .str x => 10 * x.length + 2
  | .list xs => szAll xs + 3
  | .tuple xs => szAll xs + 3
  | .dict _ => 0
def szAll : List PyData → Nat
  | [] => 0
  | x :: xs => sz x + 2 + szAll xs
end
mutual
theorem fine_ok : ∀ (d : PyData) (n : Nat), fine n d = true → d.showable = true ∧ d.hasDict = false ∧ d.depth ≤ n ∧ d.shown.length ≤ sz d
  | .none, n, _ => ⟨rfl, rfl, Nat.zero_le _, by show Str.length (PyData.shown .none) ≤ 5; decide⟩
  | .bool b, n, _ => ⟨rfl, rfl, Nat.zero_le _, by cases b <;> (show Str.length (PyData.shown (.bool _)) ≤ 5; decide)⟩
  | .int i, n, h => by
    have h1 : i.natAbs.log2 < 1900 := by simpa only [fine, decide_eq_true_eq] using h
    refine ⟨by simp only [PyData.showable, decide_eq_true_eq]; omega, rfl, Nat.zero_le _, ?_⟩
    have h2 := int_text_length_le (k := 1900) (by decide) h1
    show (Str.ofString (toString i)).length ≤ 2000
    rw [PySem.ofString_length]
    omega
  | .str x, n, h => by
    have h1 : ∀ c ∈ x.cps.toList, c < 16 ^ 8 := by
      have h2 : x.cps.all (· < 0x110000) = true := by rw [fine] at h; exact h
      rw [← Array.all_toList, List.all_eq_true] at h2
      intro c hc
      have := of_decide_eq_true (h2 c hc)
      omega
    exact ⟨rfl, rfl, Nat.zero_le _, StrLaws.reprText_len x h1⟩
  | .list xs, n + 1, h => by
    obtain ⟨h1, h2, h3, h4⟩ := fineAll_ok xs n (by simpa only [fine] using h)
    refine ⟨by simpa only [PyData.showable] using h1, by simpa only [PyData.hasDict] using h2, by simp only [PyData.depth]; omega, ?_⟩
    have := listText_len_le (PyData.shownAll xs)
    simp only [PyData.shown, sz]
    omega
  | .tuple xs, n + 1, h => by
    obtain ⟨h1, h2, h3, h4⟩ := fineAll_ok xs n (by simpa only [fine] using h)
    refine ⟨by simpa only [PyData.showable] using h1, by simpa only [PyData.hasDict] using h2, by simp only [PyData.depth]; omega, ?_⟩
    have := tupleText_len_le (PyData.shownAll xs)
    simp only [PyData.shown, sz]
    omega
  | .list _, 0, h => by simp [fine] at h
  | .tuple _, 0, h => by simp [fine] at h
  | .dict _, n, h => by cases n <;> simp [fine] at h
theorem fineAll_ok : ∀ (xs : List PyData) (n : Nat), fineAll n xs = true → PyData.showableAll xs = true ∧ PyData.hasDictAll xs = false ∧ PyData.depthAll xs ≤ n ∧ ((PyData.shownAll xs).map (·.length)).sum + 2 * (PyData.shownAll xs).length ≤ szAll xs
  | [], n, _ => ⟨rfl, rfl, Nat.zero_le _, by simp [PyData.shownAll, szAll]⟩
  | x :: xs, n, h => by
    obtain ⟨ha, hb⟩ := Bool.and_eq_true_iff.mp (show (fine n x && fineAll n xs) = true by simpa only [fineAll] using h)
    obtain ⟨a1, a2, a3, a4⟩ := fine_ok x n ha
    obtain ⟨b1, b2, b3, b4⟩ := fineAll_ok xs n hb
    refine ⟨by simp only [PyData.showableAll, a1, b1, Bool.and_true], by simp only [PyData.hasDictAll, a2, b2, Bool.or_false], by simp only [PyData.depthAll]; omega, ?_⟩
    simp only [PyData.shownAll, szAll, List.map_cons, List.sum_cons, List.length_cons]
    omega
end
mutual
theorem fine_can : ∀ (d : PyData) (n : Nat), fine n d = true → d.canLay0 = true
  | .none, _, _ => rfl
  | .bool _, _, _ => rfl
  | .int _, _, _ => rfl
  | .str x, _, h => by rw [fine] at h; rw [PyData.canLay0]; exact h
  | .list xs, n + 1, h => by
    have := fineAll_can xs n (by simpa only [fine] using h)
    simpa only [PyData.canLay0] using this
  | .tuple xs, n + 1, h => by
    have := fineAll_can xs n (by simpa only [fine] using h)
    simpa only [PyData.canLay0] using this
  | .list _, 0, h => by simp [fine] at h
  | .tuple _, 0, h => by simp [fine] at h
  | .dict _, n, h => by cases n <;> simp [fine] at h
theorem fineAll_can : ∀ (xs : List PyData) (n : Nat), fineAll n xs = true → PyData.canLayAll0 xs = true
  | [], _, _ => rfl
  | x :: xs, n, h => by
    obtain ⟨ha, hb⟩ := Bool.and_eq_true_iff.mp (show (fine n x && fineAll n xs) = true by simpa only [fineAll] using h)
    simp only [PyData.canLayAll0, fine_can x n ha, fineAll_can xs n hb, Bool.and_self]
end
theorem fine_shaped {d : PyData} (h : fine 20 d = true) : SeqAt.shaped d = true := by
  unfold SeqAt.shaped
  rw [fine_can d 20 h, Bool.true_and, decide_eq_true_eq]
  have := (fine_ok d 20 h).2.2.1
  omega
/-! no bool in it -/
mutual
def nb : PyData → Bool
  | .bool _ => false
  | .dict _ => false
  | .list xs => nbAll xs
  | .tuple xs => nbAll xs
  | _ => true
def nbAll : List PyData → Bool
  | [] => true
  | x :: xs => nb x && nbAll xs
end
mutual
theorem eqv_nb : ∀ (d e : PyData), nb d = true → nb e = true → PyData.eqv d e = true → d = e
  | .none, .none, _, _, _ => rfl
  | .int i, .int j, _, _, h => by rw [PyData.eqv, beq_iff_eq] at h; rw [h]
  | .str x, .str y, _, _, h => by rw [PyData.eqv, beq_iff_eq] at h; rw [h]
  | .list xs, .list ys, h1, h2, h => by rw [eqvAll_nb xs ys (by simpa only [nb] using h1) (by simpa only [nb] using h2) (by simpa only [PyData.eqv] using h)]
  | .tuple xs, .tuple ys, h1, h2, h => by rw [eqvAll_nb xs ys (by simpa only [nb] using h1) (by simpa only [nb] using h2) (by simpa only [PyData.eqv] using h)]
  | .bool _, _, h1, _, _ => by simp [nb] at h1
  | .dict _, _, h1, _, _ => by simp [nb] at h1
  | .none, .bool _, _, _, h => by simp [PyData.eqv] at h
  | .none, .int _, _, _, h => by simp [PyData.eqv] at h
  | .none, .str _, _, _, h => by simp [PyData.eqv] at h
  | .none, .list _, _, _, h => by simp [PyData.eqv] at h
  | .none, .tuple _, _, _, h => by simp [PyData.eqv] at h
  | .none, .dict _, _, _, h => by simp [PyData.eqv] at h
  | .int _, .none, _, _, h => by simp [PyData.eqv] at h
  | .int _, .bool _, _, h2, _ => by simp [nb] at h2
  | .int _, .str _, _, _, h => by simp [PyData.eqv] at h
  | .int _, .list _, _, _, h => by simp [PyData.eqv] at h
  | .int _, .tuple _, _, _, h => by simp [PyData.eqv] at h
  | .int _, .dict _, _, _, h => by simp [PyData.eqv] at h
  | .str _, .none, _, _, h => by simp [PyData.eqv] at h
  | .str _, .bool _, _, _, h => by simp [PyData.eqv] at h
  | .str _, .int _, _, _, h => by simp [PyData.eqv] at h
  | .str _, .list _, _, _, h => by simp [PyData.eqv] at h
  | .str _, .tuple _, _, _, h => by simp [PyData.eqv] at h
  | .str _, .dict _, _, _, h => by simp [PyData.eqv] at h
  | .list _, .none, _, _, h => by simp [PyData.eqv] at h
  | .list _, .bool _, _, _, h => by simp [PyData.eqv] at h
  | .list _, .int _, _, _, h => by simp [PyData.eqv] at h
  | .list _, .str _, _, _, h => by simp [PyData.eqv] at h
  | .list _, .tuple _, _, _, h => by simp [PyData.eqv] at h
  | .list _, .dict _, _, _, h => by simp [PyData.eqv] at h
  | .tuple _, .none, _, _, h => by simp [PyData.eqv] at h
  | .tuple _, .bool _, _, _, h => by simp [PyData.eqv] at h
  | .tuple _, .int _, _, _, h => by simp [PyData.eqv] at h
  | .tuple _, .str _, _, _, h => by simp [PyData.eqv] at h
  | .tuple _, .list _, _, _, h => by simp [PyData.eqv] at h
  | .tuple _, .dict _, _, _, h => by simp [PyData.eqv] at h
theorem eqvAll_nb : ∀ (xs ys : List PyData), nbAll xs = true → nbAll ys = true → PyData.eqvAll xs ys = true → xs = ys
  | [], [], _, _, _ => rfl
  | [], _ :: _, _, _, h => by simp [PyData.eqvAll] at h
  | _ :: _, [], _, _, h => by simp [PyData.eqvAll] at h
  | x :: xs, y :: ys, h1, h2, h => by
    obtain ⟨a1, a2⟩ := Bool.and_eq_true_iff.mp (show (nb x && nbAll xs) = true by simpa only [nbAll] using h1)
    obtain ⟨b1, b2⟩ := Bool.and_eq_true_iff.mp (show (nb y && nbAll ys) = true by simpa only [nbAll] using h2)
    obtain ⟨c1, c2⟩ := Bool.and_eq_true_iff.mp (show (PyData.eqv x y && PyData.eqvAll xs ys) = true by simpa only [PyData.eqvAll] using h)
    rw [eqv_nb x y a1 b1 c1, eqvAll_nb xs ys a2 b2 c2]
end
theorem eqv_ne {d e : PyData} (h1 : nb d = true) (h2 : nb e = true) (h : d ≠ e) : PyData.eqv d e = false := by
  cases q : PyData.eqv d e with
  | false => rfl
  | true => exact absurd (eqv_nb d e h1 h2 q) h
theorem eqv_same {d : PyData} (h : fine 20 d = true) : PyData.eqv d d = true := SeqAt.eqv_refl _ (fine_can d 20 h)
theorem nbAll_ints : ∀ {ns : List Int}, nbAll (ns.map PyData.int) = true
  | [] => rfl
  | _ :: ns => by
    have := nbAll_ints (ns := ns)
    simp only [List.map_cons, nbAll, nb, this, Bool.and_self]
theorem fineAll_ints {n : Nat} : ∀ {ns : List Int}, (∀ i ∈ ns, i.natAbs.log2 < 1900) → fineAll n (ns.map PyData.int) = true
  | [], _ => by simp only [List.map_nil, fineAll]
  | i :: ns, h => by
    have h1 := h i List.mem_cons_self
    have h2 := fineAll_ints (n := n) (ns := ns) fun j hj => h j (List.mem_cons_of_mem _ hj)
    simp only [List.map_cons, fineAll, fine, h2, Bool.and_true, decide_eq_true_eq]
    exact h1
theorem szAll_ints : ∀ {ns : List Int}, szAll (ns.map PyData.int) = 2002 * ns.length
  | [] => by simp [szAll]
  | i :: ns => by
    have := szAll_ints (ns := ns)
    simp only [List.map_cons, szAll, sz, List.length_cons]
    omega

/-! ### rules -/
section
variable {X : Cx}
/-- a great number: a bound that no number here comes to -/
def BIG : Int := 2 ^ 100000
theorem big_200 : (10 : Int) ^ 200 ≤ BIG := by
  unfold BIG
  exact Int.le_trans (by decide : (10 : Int) ^ 200 ≤ 2 ^ 700) (Int.ofNat_le.mpr (Nat.pow_le_pow_right (by decide) (by decide : 700 ≤ 100000)))
theorem big_log {i : Int} (h : -BIG < i) (h2 : i < BIG) : i.natAbs.log2 < 100000 := by
  have e : i.natAbs < 2 ^ 100000 := by
    unfold BIG at h h2
    generalize hn : (2 : Nat) ^ 100000 = n at *
    have e : ((2 : Int) ^ 100000) = (n : Int) := by rw [← hn, Int.natCast_pow] <;> rfl
    rw [e] at h h2
    omega
  exact PySem.Flt.log2_lt_of (by decide) e
def CMulB (i j : Int) : Prop := (-BIG < i ∧ i < BIG) ∧ (-BIG < j ∧ j < BIG)
def CDivB (_ j : Int) : Prop := 0 < j ∧ j ≤ 10 ^ 200
theorem op_mulB : OpR X (binaryOp .Mult) (rI CMulB fun i j => .int (i * j)) := opI fun i j _ _ _ _ _ hc q => by
  refine mul_int q (CMulW.ok ?_)
  have h1 := big_log hc.1.1 hc.1.2
  have h2 := big_log hc.2.1 hc.2.2
  unfold CMulW
  omega
theorem iop_mulB : OpR X (inplaceOp .Mult) (rI CMulB fun i j => .int (i * j)) := opI fun i j _ _ _ _ _ hc q => by
  refine imul_int q (CMulW.ok ?_)
  have h1 := big_log hc.1.1 hc.1.2
  have h2 := big_log hc.2.1 hc.2.2
  unfold CMulW
  omega
theorem op_divB : OpR X (binaryOp .FloorDiv) (rI CDivB fun i j => .int (i / j)) := opI fun i j _ _ _ _ _ hc q => by
  obtain ⟨h1, h2⟩ := hc
  have e : j.natAbs < 2 ^ 700 := by
    have : (10 : Int) ^ 200 < 2 ^ 700 := by decide
    generalize hn : (2 : Nat) ^ 700 = n at *
    have e : ((2 : Int) ^ 700) = (n : Int) := by rw [← hn, Int.natCast_pow] <;> rfl
    rw [e] at this
    omega
  exact floordiv_int (by omega) (by rw [Int.fdiv_eq_ediv_of_nonneg i (by omega)]; exact q) (.inl (PyProof.noPylong_of_log2 (Nat.lt_trans (PySem.Flt.log2_lt_of (by decide) e) (by decide))))
/-- a power of a great int -/
def CPowW (i j : Int) : Prop := 0 ≤ j ∧ j ≤ 100 ∧ -BIG < i ∧ i < BIG
theorem op_powB : OpR X (binaryOp .Pow) (rI CPowW fun i j => .int (i ^ j.toNat)) := opI fun i j _ _ _ _ _ hc q => by
  obtain ⟨h1, h2, h3, h4⟩ := hc
  refine pow_int h1 ?_ q
  have b : Builtin.Int.intBits i ≤ 100000 := by
    unfold Builtin.Int.intBits
    split
    · omega
    · have := big_log h3 h4
      omega
  have b2 : ((Builtin.Int.intBits i : Nat) : Int) ≤ 100000 := by omega
  calc ((Builtin.Int.intBits i : Nat) : Int) * j ≤ 100000 * j := Int.mul_le_mul_of_nonneg_right b2 h1
    _ ≤ 100000 * 100 := Int.mul_le_mul_of_nonneg_left h2 (by decide)
    _ ≤ 2 ^ 27 := by decide
/-- a power of a small int -/
def CPowC (i j : Int) : Prop := 0 ≤ j ∧ j ≤ 1000 ∧ -(10 ^ 18) < i ∧ i < 10 ^ 18
theorem op_powC : OpR X (binaryOp .Pow) (rI CPowC fun i j => .int (i ^ j.toNat)) := opI fun i j _ _ _ _ _ hc q => pow_int_small hc.1 (by have := hc.2.1; omega) (by have h1 := hc.2.2.1; have h2 := hc.2.2.2; omega) q
/-- a number whose text is no matter -/
def MED : Int := 2 ^ 1900
theorem med_200 : (10 : Int) ^ 200 ≤ MED := by
  unfold MED
  exact Int.le_trans (by decide : (10 : Int) ^ 200 ≤ 2 ^ 700) (Int.ofNat_le.mpr (Nat.pow_le_pow_right (by decide) (by decide : 700 ≤ 1900)))
theorem med_log {i : Int} (h : -MED < i) (h2 : i < MED) : i.natAbs.log2 < 1900 := by
  have e : i.natAbs < 2 ^ 1900 := by
    unfold MED at h h2
    generalize hn : (2 : Nat) ^ 1900 = n at *
    have e : ((2 : Int) ^ 1900) = (n : Int) := by rw [← hn, Int.natCast_pow] <;> rfl
    rw [e] at h h2
    omega
  exact PySem.Flt.log2_lt_of (by decide) e
def rReprI : List V → Hp → VK → Prop := fun xs H Q => ∃ i, xs = [.int i] ∧ (-MED < i ∧ i < MED) ∧ Q (.str (toString i)) H
theorem call_repr_I : CallR X (.builtin "repr") rReprI := by
  intro pins s σ H xs us Q I r h
  obtain ⟨i, rfl, hb, q⟩ := h
  cases r with
  | cons r0 r1 =>
  cases r1
  obtain ⟨t, rfl⟩ := r0
  exact P.repr_of_int (Nat.lt_trans (med_log hb.1 hb.2) (by decide)) ⟨.str _, H, I.tok _, ⟨_, rfl⟩, q⟩
theorem call_str_I : CallR X (.type "str") rReprI := fun pins s σ H xs us Q I r h => call_str_int pins s σ H xs us Q I r (by
  obtain ⟨i, e, hb, q⟩ := h
  exact ⟨i, e, Nat.lt_trans (med_log hb.1 hb.2) (by decide), q⟩)
theorem call_intI : CallR X (.type "int") (fun xs H Q => ∃ i, xs = [.int i] ∧ Q (.int i) H) := fun pins s σ H xs us Q I r h => call_int1 pins s σ H xs us Q I r (.inl h)
/-- a tracked list's, a tracked tuple's item -/
def rIxLT : R2 := fun x y H Q => ∃ p xs i v, x = .ref p ∧ y = .int i ∧ H p = some (.lst xs) ∧ atI xs i = some v ∧ Q v H
def rIxTT : R2 := fun x y H Q => ∃ p xs i v, x = .ref p ∧ y = .int i ∧ H p = some (.tup xs) ∧ atI xs i = some v ∧ Q v H
theorem ix_listT : IxR X rIxLT := fun e1 e2 pins s σ H x y u v Q I rx ry h hs => ix_list e1 e2 pins s σ H x y u v Q I rx ry (by
  obtain ⟨p, xs, i, v, h1, h2, h3, h4, q⟩ := h
  exact ⟨p, xs, i, v, h1, h2, SqL.of h3, h4, q⟩) hs
theorem ix_tupT : IxR X rIxTT := fun e1 e2 pins s σ H x y u v Q I rx ry h hs => ix_tup e1 e2 pins s σ H x y u v Q I rx ry (by
  obtain ⟨p, xs, i, v, h1, h2, h3, h4, q⟩ := h
  exact ⟨p, xs, i, v, h1, h2, SqT.of h3, h4, q⟩) hs
/-- repr of data, no repr under way -/
def rReprD (K : PySem.W.Frag) : List V → Hp → VK → Prop := fun xs H Q =>
  ∃ v d, xs = [v] ∧ Dp K H v d ∧ fine 20 d = true ∧ sz d ≤ 16000000 ∧ Q (.str d.shown) H
/-- == and != of data -/
def rEqF (K : PySem.W.Frag) : R2 := fun x y H Q => ∃ d e, Dp K H x d ∧ Dp K H y e ∧ fine 20 d = true ∧ fine 20 e = true ∧ Q (.bl (PyData.eqv d e)) H
def rNeF (K : PySem.W.Frag) : R2 := fun x y H Q => ∃ d e, Dp K H x d ∧ Dp K H y e ∧ fine 20 d = true ∧ fine 20 e = true ∧ Q (.bl (!PyData.eqv d e)) H
theorem op_eqF {k : Nat} (hr : Room k X.A) : OpR X (compareOp .Eq) (rEqF X.K) := fun pins s σ H x y v u Q I rx ry h => op_eqD hr.units pins s σ H x y v u Q I rx ry (by
  obtain ⟨d, e, h1, h2, h3, h4, q⟩ := h
  exact ⟨d, e, h1, h2, fine_shaped h3, fine_shaped h4, q⟩)
theorem op_neF {k : Nat} (hr : Room k X.A) : OpR X (compareOp .NotEq) (rNeF X.K) := fun pins s σ H x y v u Q I rx ry h => op_neD hr.units pins s σ H x y v u Q I rx ry (by
  obtain ⟨d, e, h1, h2, h3, h4, q⟩ := h
  exact ⟨d, e, h1, h2, fine_shaped h3, fine_shaped h4, q⟩)
theorem call_repr_D {k : Nat} (hr : Room k X.A) (hc : Clean X.A) : CallR X (.builtin "repr") (rReprD X.K) := by
  intro pins s σ H xs us Q I r h
  obtain ⟨v, d, rfl, hd, hf, hs, q⟩ := h
  obtain ⟨h1, h2, h3, hz0⟩ := fine_ok d 20 hf
  have hz : d.shown.length ≤ sizeLine := by rw [sizeLine_eq]; omega
  cases r with
  | cons r0 r1 =>
  cases r1
  rename_i u
  have hu := hr.units
  obtain ⟨as, rd⟩ := Dp.reads I d v u hd r0
  cases hd with
  | non => cases r0; exact P.repr_of_none ⟨.str _, H, I.tok _, ⟨_, rfl⟩, q⟩
  | bl b =>
    cases r0
    refine P.repr_of_bool ⟨.str _, H, I.tok _, ⟨_, rfl⟩, ?_⟩
    cases b <;> exact q
  | int i =>
    obtain ⟨t, rfl⟩ := r0
    exact P.repr_of_int (by simpa only [PyData.showable, decide_eq_true_eq] using h1) ⟨.str _, H, I.tok _, ⟨_, rfl⟩, q⟩
  | str x =>
    obtain ⟨t, rfl⟩ := r0
    exact P.repr_of_str ⟨.str _, H, I.tok _, ⟨_, rfl⟩, q⟩ hz
  | lst _ _ =>
    cases r0
    exact repr_of_reads' rd h1 (fun z => by rw [h2] at z; cases z) hc (by omega) (fun _ _ z => z) (fun h' u tk kk => ⟨.str _, H, I.kept kk, ⟨_, rfl⟩, q⟩) hz
  | tup _ _ =>
    cases r0
    exact repr_of_reads' rd h1 (fun z => by rw [h2] at z; cases z) hc (by omega) (fun _ _ z => z) (fun h' u tk kk => ⟨.str _, H, I.kept kk, ⟨_, rfl⟩, q⟩) hz
end

/-- (a, b, ..) = a tracked tuple of that length -/
def gTupT (n : Nat) (t : TGs) : TG := fun v σ H Q => ∃ a xs, v = .ref a ∧ H a = some (.tup xs) ∧ xs.length = n ∧ t xs σ H Q
theorem pg_tupT {X : Cx} {pos : Pos} {es : List Expr} {k : Nat} {t : TGs} {n : Nat} (hc : X.calm = true) (h : PGs X es t)
    (hn : (assignEach es X.env).length = n := by rfl) (hst : (assignEach es X.env).findIdx? (·.1) = none := by rfl) : PG X (.Tuple es k pos) (gTupT n t) :=
  ⟨fun pins s σ H v u Q I r hw => (pg_tup hc h hn hst).run pins s σ H v u Q I r (by
    obtain ⟨a, xs, e1, hq, hl, z⟩ := hw
    exact ⟨a, xs, e1, SqT.of hq, hl, z⟩)⟩

/-! ### promises by the number of arguments -/
def sp0 (F : Hp → VK → XK → Prop) : Sp := fun vs H Q E => vs = [] ∧ F H Q E
def sp1 (F : V → Hp → VK → XK → Prop) : Sp := fun vs H Q E => ∃ a, vs = [a] ∧ F a H Q E
def sp2 (F : V → V → Hp → VK → XK → Prop) : Sp := fun vs H Q E => ∃ a b, vs = [a, b] ∧ F a b H Q E
def sp3 (F : V → V → V → Hp → VK → XK → Prop) : Sp := fun vs H Q E => ∃ a b c, vs = [a, b, c] ∧ F a b c H Q E
def sp4 (F : V → V → V → V → Hp → VK → XK → Prop) : Sp := fun vs H Q E => ∃ a b c d, vs = [a, b, c, d] ∧ F a b c d H Q E
def sp5 (F : V → V → V → V → V → Hp → VK → XK → Prop) : Sp := fun vs H Q E => ∃ a b c d e, vs = [a, b, c, d, e] ∧ F a b c d e H Q E
theorem ar0 {F vs H Q E} (h : sp0 F vs H Q E) : vs.length = 0 := by obtain ⟨rfl, _⟩ := h; rfl
theorem ar1 {F vs H Q E} (h : sp1 F vs H Q E) : vs.length = 1 := by obtain ⟨_, rfl, _⟩ := h; rfl
theorem ar2 {F vs H Q E} (h : sp2 F vs H Q E) : vs.length = 2 := by obtain ⟨_, _, rfl, _⟩ := h; rfl
theorem ar3 {F vs H Q E} (h : sp3 F vs H Q E) : vs.length = 3 := by obtain ⟨_, _, _, rfl, _⟩ := h; rfl
theorem ar4 {F vs H Q E} (h : sp4 F vs H Q E) : vs.length = 4 := by obtain ⟨_, _, _, _, rfl, _⟩ := h; rfl
theorem ar5 {F vs H Q E} (h : sp5 F vs H Q E) : vs.length = 5 := by obtain ⟨_, _, _, _, _, rfl, _⟩ := h; rfl

/-! ### what is kept but for one object -/
def Mo (r : Addr) (H H' : Hp) : Prop := ∀ b o, b ≠ r → H b = some o → H' b = some o
theorem Mo.refl (r : Addr) (H : Hp) : Mo r H H := fun _ _ _ h => h
theorem Mo.trans {r : Addr} {H H1 H2 : Hp} (a : Mo r H H1) (b : Mo r H1 H2) : Mo r H H2 := fun c o n h => b c o n (a c o n h)
theorem Mo.ex {r : Addr} {H H1 : Hp} (e : Ex H H1) : Mo r H H1 := fun c o _ h => e c o h
theorem Mo.upd {r : Addr} {H : Hp} {o : HO} : Mo r H (upd H r o) := fun c u n h => by rw [upd_ne n]; exact h
theorem Ex.to_mo {r : Addr} {H H1 H2 : Hp} (e : Ex H H1) (m : Mo r H1 H2) : Mo r H H2 := fun c o n h => m c o n (e c o h)
/-- a new object that is written stays new to what stood before -/
theorem Mo.ex_new {r : Addr} {H H1 H2 : Hp} (e : Ex H H1) (n : H r = none) (m : Mo r H1 H2) : Ex H H2 := fun c o h => m c o (ne_of_none h n) (e c o h)
theorem sq_l {K : PySem.W.Frag} {H : Hp} {a : Addr} {xs : List V} (h : H a = some (.lst xs)) : SqL K H a xs := .inl (.inl h)
theorem sq_t {K : PySem.W.Frag} {H : Hp} {a : Addr} {xs : List V} (h : H a = some (.tup xs)) : SqT K H a xs := .inl (.inl h)

/-! ### new data: what is at addresses of S alone -/
mutual
inductive Rp (H : Hp) (S : Addr → Prop) : V → PyData → Prop where
  | non : Rp H S .non .none
  | bl (b : Bool) : Rp H S (.bl b) (.bool b)
  | int (i : Int) : Rp H S (.int i) (.int i)
  | str (x : Str) : Rp H S (.str x) (.str x)
  | lst {a : Addr} {xs : List V} {ds : List PyData} : S a → H a = some (.lst xs) → RpA H S xs ds → Rp H S (.ref a) (.list ds)
  | tup {a : Addr} {xs : List V} {ds : List PyData} : S a → H a = some (.tup xs) → RpA H S xs ds → Rp H S (.ref a) (.tuple ds)
inductive RpA (H : Hp) (S : Addr → Prop) : List V → List PyData → Prop where
  | nil : RpA H S [] []
  | cons {v : V} {vs : List V} {d : PyData} {ds : List PyData} : Rp H S v d → RpA H S vs ds → RpA H S (v :: vs) (d :: ds)
end
section
variable {H H' : Hp} {S S' : Addr → Prop} {K : PySem.W.Frag}
mutual
theorem Rp.keep (k : ∀ b o, S b → H b = some o → H' b = some o) (s : ∀ b, S b → S' b) : ∀ {d : PyData} {v : V}, Rp H S v d → Rp H' S' v d
  | .none, _, .non => .non
  | .bool _, _, .bl b => .bl b
  | .int _, _, .int i => .int i
  | .str _, _, .str x => .str x
  | .list _, _, .lst m h r => .lst (s _ m) (k _ _ m h) (RpA.keep k s r)
  | .tuple _, _, .tup m h r => .tup (s _ m) (k _ _ m h) (RpA.keep k s r)
theorem RpA.keep (k : ∀ b o, S b → H b = some o → H' b = some o) (s : ∀ b, S b → S' b) : ∀ {ds : List PyData} {vs : List V}, RpA H S vs ds → RpA H' S' vs ds
  | [], _, .nil => .nil
  | _ :: _, _, .cons h r => .cons (Rp.keep k s h) (RpA.keep k s r)
end
mutual
theorem Rp.dp : ∀ {d : PyData} {v : V}, Rp H S v d → Dp K H v d
  | .none, _, .non => .non
  | .bool _, _, .bl b => .bl b
  | .int _, _, .int i => .int i
  | .str _, _, .str x => .str x
  | .list _, _, .lst _ h r => .lst (sq_l h) (RpA.dp r)
  | .tuple _, _, .tup _ h r => .tup (sq_t h) (RpA.dp r)
theorem RpA.dp : ∀ {ds : List PyData} {vs : List V}, RpA H S vs ds → DpAll K H vs ds
  | [], _, .nil => .nil
  | _ :: _, _, .cons h r => .cons (Rp.dp h) (RpA.dp r)
end
theorem Rp.ex (e : Ex H H') {v : V} {d : PyData} (h : Rp H S v d) : Rp H' S v d := h.keep (fun b o _ q => e b o q) fun _ q => q
theorem RpA.ex (e : Ex H H') {v : List V} {d : List PyData} (h : RpA H S v d) : RpA H' S v d := h.keep (fun b o _ q => e b o q) fun _ q => q
theorem Rp.sub {v : V} {d : PyData} (h : Rp H S v d) (s : ∀ b, S b → S' b) : Rp H S' v d := h.keep (fun _ _ _ q => q) s
theorem RpA.sub {v : List V} {d : List PyData} (h : RpA H S v d) (s : ∀ b, S b → S' b) : RpA H S' v d := h.keep (fun _ _ _ q => q) s
theorem RpA.app : ∀ {xs ys : List V} {ds es : List PyData}, RpA H S xs ds → RpA H S ys es → RpA H S (xs ++ ys) (ds ++ es)
  | _, _, _, _, .nil, r => r
  | _, _, _, _, .cons h t, r => .cons h (RpA.app t r)
theorem RpA.len : ∀ {vs : List V} {ds : List PyData}, RpA H S vs ds → vs.length = ds.length
  | _, _, .nil => rfl
  | _, _, .cons _ r => congrArg Nat.succ (RpA.len r)
theorem RpA.at : ∀ {vs : List V} {ds : List PyData} {i : Nat} {d : PyData}, RpA H S vs ds → ds[i]? = some d → ∃ v, vs[i]? = some v ∧ Rp H S v d
  | _, _, _, _, .nil, e => by simp at e
  | _, _, 0, _, .cons h _, e => by simp at e; subst e; exact ⟨_, rfl, h⟩
  | _, _, i + 1, _, .cons _ r, e => by simpa using RpA.at (i := i) r (by simpa using e)
theorem RpA.at' : ∀ {vs : List V} {ds : List PyData} {i : Nat} {v : V}, RpA H S vs ds → vs[i]? = some v → ∃ d, ds[i]? = some d ∧ Rp H S v d
  | _, _, _, _, .nil, e => by simp at e
  | _, _, 0, _, .cons h _, e => by simp at e; subst e; exact ⟨_, rfl, h⟩
  | _, _, i + 1, _, .cons _ r, e => by simpa using RpA.at' (i := i) r (by simpa using e)
theorem RpA.ints : ∀ {ns : List Int}, RpA H S (ns.map V.int) (ns.map PyData.int)
  | [] => .nil
  | n :: _ => .cons (.int n) RpA.ints
theorem RpA.ints_inv : ∀ {ns : List Int} {vs : List V}, RpA H S vs (ns.map PyData.int) → vs = ns.map V.int
  | [], _, .nil => rfl
  | _ :: _, _, .cons (.int _) r => congrArg _ (RpA.ints_inv r)
/-- a new datum: all of it new to H -/
abbrev New (H : Hp) : Addr → Prop := fun b => H b = none
theorem new_ex (e : Ex H H') : ∀ b, New H' b → New H b := fun _ n => Evl.fresh_back e n
end

/-! ### comprehensions -/
theorem dpa_ex {K : PySem.W.Frag} {H H' : Hp} (e : Ex H H') : ∀ {vs : List V} {ds : List PyData}, DpAll K H vs ds → DpAll K H' vs ds
  | _, _, .nil => .nil
  | _, _, .cons h r => .cons (dp_ex e _ _ h) (dpa_ex e r)
theorem dpa_len {K : PySem.W.Frag} {H : Hp} : ∀ {vs : List V} {ds : List PyData}, DpAll K H vs ds → vs.length = ds.length
  | _, _, .nil => rfl
  | _, _, .cons _ r => congrArg Nat.succ (dpa_len r)
theorem dpa_at {K : PySem.W.Frag} {H : Hp} : ∀ {vs : List V} {ds : List PyData} {i : Nat} {d : PyData}, DpAll K H vs ds → ds[i]? = some d → ∃ v, vs[i]? = some v ∧ Dp K H v d
  | _, _, _, _, .nil, e => by simp at e
  | _, _, 0, _, .cons h _, e => by simp at e; subst e; exact ⟨_, rfl, h⟩
  | _, _, i + 1, _, .cons _ r, e => by simpa using dpa_at (i := i) r (by simpa using e)
theorem dpa_ints {K : PySem.W.Frag} {H : Hp} : ∀ {ns : List Int}, DpAll K H (ns.map V.int) (ns.map PyData.int)
  | [] => .nil
  | n :: _ => .cons (.int n) dpa_ints
section
variable {K : PySem.W.Frag} {σ : L2.St} {H : Hp} {ta : TA} {te tl : TE} {tt : TT} {j : Nat} {vs : List Nat} {Q : VK} {n : Nat} {a : Addr} {xs : List V}
/-- one turn of a comprehension without a test: what is at D grows by what represents d i -/
def LcAt (H : Hp) (D : Addr) (d : Nat → PyData) (i : Nat) (H' : Hp) : Prop :=
  H D = none ∧ Ex H H' ∧ ∃ ys, H' D = some (.lst ys) ∧ RpA H' (fun b => New H b ∧ b ≠ D) ys ((List.range i).map d)
theorem LcAt.start {d : Nat → PyData} {D : Addr} (h : H D = none) : LcAt H D d 0 (upd H D (.lst [])) := ⟨h, exn h, [], upd_same, .nil⟩
theorem lc_step {d : Nat → PyData} {D : Addr} {i : Nat} {H' : Hp} {σ2 : L2.St} (p : LcAt H D d i H') (hi : i < 1000000)
    (he : ∀ H1, Ex H H1 → ∀ R : VK, (∀ v H2, Ex H1 H2 → Rp H2 (New H1) v (d i) → R v H2) → te σ2 H1 R) :
    tYes σ2 H' fun b H3 => if b = true then te σ2 H3 fun y H4 => ∃ acc, H4 D = some (.lst acc) ∧ acc.length < sizeLine ∧ LcAt H D d (i + 1) (upd H4 D (.lst (acc ++ [y]))) else LcAt H D d (i + 1) H3 := by
  obtain ⟨p1, p2, ys, p3, p4⟩ := p
  unfold tYes
  show (if true = true then _ else _)
  rw [if_pos rfl]
  refine he H' p2 _ fun v H2 e2 hv => ?_
  have len : ys.length = i := by rw [p4.len, List.length_map, List.length_range]
  have keep : ∀ (b : Addr) (o : HO), New H b ∧ b ≠ D → H2 b = some o → (upd H2 D (.lst (ys ++ [v]))) b = some o := fun b o m q => by rw [upd_ne m.2]; exact q
  refine ⟨ys, e2 D _ p3, ?_, p1, Mo.ex_new (p2.trans e2) p1 Mo.upd, ys ++ [v], upd_same, ?_⟩
  · rw [len, sizeLine_eq]; omega
  · rw [List.range_succ, List.map_append]
    refine RpA.app ((p4.ex e2).keep keep fun _ q => q) (.cons ?_ .nil)
    exact (hv.sub fun b q => ⟨Evl.fresh_back p2 q, ne_of_none' q p3⟩).keep keep fun _ q => q
where ne_of_none' {H : Hp} {a b : Addr} {o : HO} (q : H b = none) (h : H a = some o) : b ≠ a := fun e => by rw [e, h] at q; cases q
/-- [.. for x in range(n)] -/
theorem lc_rng (d : Nat → PyData) (ha : ∀ R, R [.int (n : Int)] H → ta σ H R) (hn : n ≤ 1000000) (hw : ∀ x, wipe ((wipe σ vs).set j (some x)) vs = wipe σ vs)
    (he : ∀ (i : Nat) H1, i < n → Ex H H1 → ∀ R : VK, (∀ v H2, Ex H1 H2 → Rp H2 (New H1) v (d i) → R v H2) → te ((wipe σ vs).set j (some (.int (i : Int)))) H1 R)
    (k : ∀ v H', Ex H H' → Rp H' (New H) v (.list ((List.range n).map d)) → Q v H') : tLc (iRng1 ta) (gName j) tYes te vs σ H Q := by
  refine ha _ ⟨(n : Int), rfl, by omega, by omega, fun D hD => ?_⟩
  refine lc_range (lo := 0) (n := n) (LcAt H D d) (.start hD) (fun i H' hi p => ?_) (fun H' p => ?_)
  · have e0 : (0 : Int) + (i : Int) = (i : Int) := Int.zero_add _
    show wipe ((wipe σ vs).set j (some (.int ((0 : Int) + (i : Int))))) vs = wipe σ vs ∧ _
    refine ⟨hw _, ?_⟩
    rw [e0]
    exact lc_step p (by omega) (he i · hi)
  · obtain ⟨p1, p2, ys, p3, p4⟩ := p
    exact k _ _ p2 (.lst p1 p3 (p4.sub fun b q => q.1))
theorem lc_rng2 {lo : Int} (d : Nat → PyData) (ha : ∀ R, R [.int lo, .int (lo + (n : Int))] H → ta σ H R) (hn : n ≤ 1000000) (hlo : -1000000 ≤ lo ∧ lo ≤ 1000000) (hw : ∀ x, wipe ((wipe σ vs).set j (some x)) vs = wipe σ vs)
    (he : ∀ (i : Nat) H1, i < n → Ex H H1 → ∀ R : VK, (∀ v H2, Ex H1 H2 → Rp H2 (New H1) v (d i) → R v H2) → te ((wipe σ vs).set j (some (.int (lo + (i : Int))))) H1 R)
    (k : ∀ v H', Ex H H' → Rp H' (New H) v (.list ((List.range n).map d)) → Q v H') : tLc (iRng2 ta) (gName j) tYes te vs σ H Q := by
  refine ha _ ⟨lo, lo + (n : Int), rfl, ⟨by omega, by omega, by omega, by omega⟩, fun D hD => ?_⟩
  have en : (lo + (n : Int) - lo).toNat = n := by omega
  rw [en]
  refine lc_range (lo := lo) (n := n) (LcAt H D d) (.start hD) (fun i H' hi p => ⟨hw _, lc_step p (by omega) (he i · hi)⟩) (fun H' p => ?_)
  obtain ⟨p1, p2, ys, p3, p4⟩ := p
  exact k _ _ p2 (.lst p1 p3 (p4.sub fun b q => q.1))
/-- [.. for x in xs], xs a list that stands -/
theorem lc_lst (d : Nat → PyData) (ha : ∀ R, R (.ref a) H → tl σ H R) (hx : SqL K H a xs) (hn : xs.length ≤ 1000000) (hw : ∀ x, wipe ((wipe σ vs).set j (some x)) vs = wipe σ vs)
    (he : ∀ (i : Nat) x H1, xs[i]? = some x → Ex H H1 → ∀ R : VK, (∀ v H2, Ex H1 H2 → Rp H2 (New H1) v (d i) → R v H2) → te ((wipe σ vs).set j (some x)) H1 R)
    (k : ∀ v H', Ex H H' → Rp H' (New H) v (.list ((List.range xs.length).map d)) → Q v H') : tLc (iList K tl) (gName j) tYes te vs σ H Q := by
  refine ha _ ⟨a, rfl, ⟨xs, hx⟩, fun D hD => ?_⟩
  refine lc_list (xs := xs) (LcAt H D d) (.start hD) (fun i H' _ p => Evl.ex_l p.2.1 hx) (fun i x H' hi p => ⟨hw _, lc_step p ?_ (he i x · hi)⟩) (fun H' p => ?_)
  · have := (List.getElem?_eq_some_iff.mp hi).1; omega
  · obtain ⟨p1, p2, ys, p3, p4⟩ := p
    exact k _ _ p2 (.lst p1 p3 (p4.sub fun b q => q.1))
end

section
variable {K : PySem.W.Frag} {σ : L2.St} {H : Hp} {ta : TA} {te tl : TE} {tt : TT} {j : Nat} {vs : List Nat} {Q : VK} {n : Nat} {a : Addr} {xs : List V}
/-- with a test -/
def LcAtF (H : Hp) (D : Addr) (f : Nat → Bool) (d : Nat → PyData) (i : Nat) (H' : Hp) : Prop :=
  H D = none ∧ Ex H H' ∧ ∃ ys, H' D = some (.lst ys) ∧ RpA H' (fun b => New H b ∧ b ≠ D) ys (((List.range i).filter f).map d)
theorem LcAtF.start {f : Nat → Bool} {d : Nat → PyData} {D : Addr} (h : H D = none) : LcAtF H D f d 0 (upd H D (.lst [])) := ⟨h, exn h, [], upd_same, .nil⟩
theorem lc_stepF {f : Nat → Bool} {d : Nat → PyData} {D : Addr} {i : Nat} {H' : Hp} {σ2 : L2.St} (p : LcAtF H D f d i H') (hi : i < 1000000)
    (ht : ∀ H1, Ex H H1 → ∀ R : Bool → Hp → Prop, (∀ H2, Ex H1 H2 → R (f i) H2) → tt σ2 H1 R)
    (he : f i = true → ∀ H1, Ex H H1 → ∀ R : VK, (∀ v H2, Ex H1 H2 → Rp H2 (New H1) v (d i) → R v H2) → te σ2 H1 R) :
    tt σ2 H' fun b H3 => if b = true then te σ2 H3 fun y H4 => ∃ acc, H4 D = some (.lst acc) ∧ acc.length < sizeLine ∧ LcAtF H D f d (i + 1) (upd H4 D (.lst (acc ++ [y]))) else LcAtF H D f d (i + 1) H3 := by
  obtain ⟨p1, p2, ys, p3, p4⟩ := p
  refine ht H' p2 _ fun H3 e3 => ?_
  cases hf : f i with
  | false =>
    refine iteF ⟨p1, p2.trans e3, ys, e3 D _ p3, ?_⟩
    rw [List.range_succ, List.filter_append, List.filter_cons_of_neg (by simp [hf]), List.filter_nil, List.append_nil]
    exact p4.ex e3
  | true =>
    show (if true = true then _ else _)
    rw [if_pos rfl]
    refine he hf H3 (p2.trans e3) _ fun v H2 e2 hv => ?_
    have len : ys.length ≤ i := by
      rw [p4.len, List.length_map]
      have := List.length_filter_le f (List.range i)
      rw [List.length_range] at this
      exact this
    have p5 := e3 D _ p3
    have keep : ∀ (b : Addr) (o : HO), New H b ∧ b ≠ D → H2 b = some o → (upd H2 D (.lst (ys ++ [v]))) b = some o := fun b o m q => by rw [upd_ne m.2]; exact q
    refine ⟨ys, e2 D _ p5, ?_, p1, Mo.ex_new ((p2.trans e3).trans e2) p1 Mo.upd, ys ++ [v], upd_same, ?_⟩
    · rw [sizeLine_eq]; omega
    · rw [List.range_succ, List.filter_append, List.filter_cons_of_pos hf, List.filter_nil, List.map_append]
      refine RpA.app (((p4.ex e3).ex e2).keep keep fun _ q => q) (.cons ?_ .nil)
      exact (hv.sub fun b q => ⟨Evl.fresh_back (p2.trans e3) q, lc_step.ne_of_none' q p5⟩).keep keep fun _ q => q
theorem lc_rng2F {lo : Int} (f : Nat → Bool) (d : Nat → PyData) (ha : ∀ R, R [.int lo, .int (lo + (n : Int))] H → ta σ H R) (hn : n ≤ 1000000) (hlo : -1000000 ≤ lo ∧ lo ≤ 1000000) (hw : ∀ x, wipe ((wipe σ vs).set j (some x)) vs = wipe σ vs)
    (ht : ∀ (i : Nat) H1, i < n → Ex H H1 → ∀ R : Bool → Hp → Prop, (∀ H2, Ex H1 H2 → R (f i) H2) → tt ((wipe σ vs).set j (some (.int (lo + (i : Int))))) H1 R)
    (he : ∀ (i : Nat) H1, i < n → f i = true → Ex H H1 → ∀ R : VK, (∀ v H2, Ex H1 H2 → Rp H2 (New H1) v (d i) → R v H2) → te ((wipe σ vs).set j (some (.int (lo + (i : Int))))) H1 R)
    (k : ∀ v H', Ex H H' → Rp H' (New H) v (.list (((List.range n).filter f).map d)) → Q v H') : tLc (iRng2 ta) (gName j) tt te vs σ H Q := by
  refine ha _ ⟨lo, lo + (n : Int), rfl, ⟨by omega, by omega, by omega, by omega⟩, fun D hD => ?_⟩
  have en : (lo + (n : Int) - lo).toNat = n := by omega
  rw [en]
  refine lc_range (lo := lo) (n := n) (LcAtF H D f d) (.start hD) (fun i H' hi p => ⟨hw _, lc_stepF p (by omega) (fun H1 => ht i H1 hi) (fun hf H1 => he i H1 hi hf)⟩) (fun H' p => ?_)
  obtain ⟨p1, p2, ys, p3, p4⟩ := p
  exact k _ _ p2 (.lst p1 p3 (p4.sub fun b q => q.1))
theorem lc_lstF (f : Nat → Bool) (d : Nat → PyData) (ha : ∀ R, R (.ref a) H → tl σ H R) (hx : SqL K H a xs) (hn : xs.length ≤ 1000000) (hw : ∀ x, wipe ((wipe σ vs).set j (some x)) vs = wipe σ vs)
    (ht : ∀ (i : Nat) x H1, xs[i]? = some x → Ex H H1 → ∀ R : Bool → Hp → Prop, (∀ H2, Ex H1 H2 → R (f i) H2) → tt ((wipe σ vs).set j (some x)) H1 R)
    (he : ∀ (i : Nat) x H1, xs[i]? = some x → f i = true → Ex H H1 → ∀ R : VK, (∀ v H2, Ex H1 H2 → Rp H2 (New H1) v (d i) → R v H2) → te ((wipe σ vs).set j (some x)) H1 R)
    (k : ∀ v H', Ex H H' → Rp H' (New H) v (.list (((List.range xs.length).filter f).map d)) → Q v H') : tLc (iList K tl) (gName j) tt te vs σ H Q := by
  refine ha _ ⟨a, rfl, ⟨xs, hx⟩, fun D hD => ?_⟩
  refine lc_list (xs := xs) (LcAtF H D f d) (.start hD) (fun i H' _ p => Evl.ex_l p.2.1 hx) (fun i x H' hi p => ⟨hw _, lc_stepF p ?_ (fun H1 => ht i x H1 hi) (fun hf H1 => he i x H1 hi hf)⟩) (fun H' p => ?_)
  · have := (List.getElem?_eq_some_iff.mp hi).1; omega
  · obtain ⟨p1, p2, ys, p3, p4⟩ := p
    exact k _ _ p2 (.lst p1 p3 (p4.sub fun b q => q.1))
end

/-! ### two displays of the same -/
theorem neF_same {K : PySem.W.Frag} {H : Hp} {p q : Addr} {xs : List V} {ds : List PyData} {A B : Prop} (h1 : H p = some (.lst xs)) (h2 : H q = some (.lst xs)) (hd : DpAll K H xs ds) (hf : fine 20 (.list ds) = true) (b : B) :
    ∃ d, Dp K H (.ref p) d ∧ ∃ e, Dp K H (.ref q) e ∧ fine 20 d = true ∧ fine 20 e = true ∧ if d.eqv e = false then A else B :=
  ⟨_, .lst (sq_l h1) hd, _, .lst (sq_l h2) hd, hf, hf, by rw [eqv_same hf, if_neg (by decide)]; exact b⟩
theorem eqF_same {K : PySem.W.Frag} {H : Hp} {p q : Addr} {xs : List V} {ds : List PyData} {Q : VK} (h1 : H p = some (.lst xs)) (h2 : H q = some (.lst xs)) (hd : DpAll K H xs ds) (hf : fine 20 (.list ds) = true) (b : Q (.bl true) H) :
    ∃ d, Dp K H (.ref p) d ∧ ∃ e, Dp K H (.ref q) e ∧ fine 20 d = true ∧ fine 20 e = true ∧ Q (.bl (d.eqv e)) H :=
  ⟨_, .lst (sq_l h1) hd, _, .lst (sq_l h2) hd, hf, hf, by rw [eqv_same hf]; exact b⟩

/-! ### loops -/
section
variable {K : PySem.W.Frag} {σ : L2.St} {H : Hp} {ta : TA} {tl : TE} {tb : TS} {g : TG} {j : Nat} {D : Ends} {a : Addr} {xs : List V}
theorem for_rng2 {lo hi : Int} (n : Nat) (ha : ∀ R, R [.int lo, .int hi] H → ta σ H R) (hn : (hi - lo).toNat = n) (hb : -(2 ^ 60) ≤ lo ∧ lo ≤ 2 ^ 60 ∧ -(2 ^ 60) ≤ hi ∧ hi ≤ 2 ^ 60)
    (Pv : Nat → L2.St → Hp → Prop) (h0 : Pv 0 σ H) (hd : ∀ σ H, Pv n σ H → D.nx σ H)
    (hs : ∀ (i : Nat) σ H, i < n → Pv i σ H → tb { D with nx := Pv (i + 1), ct := Pv (i + 1), bk := D.nx } (σ.set j (some (.int (lo + (i : Int))))) H) : tFor (iRng2 ta) (gName j) tb D σ H := by
  refine ha _ ⟨lo, hi, rfl, ⟨by omega, by omega, by omega, by omega⟩, ?_⟩
  rw [hn]
  exact for_range Pv h0 hs hd
theorem for_rng1 {hi : Int} (n : Nat) (ha : ∀ R, R [.int hi] H → ta σ H R) (hn : hi.toNat = n) (hb : -(2 ^ 60) ≤ hi ∧ hi ≤ 2 ^ 60)
    (Pv : Nat → L2.St → Hp → Prop) (h0 : Pv 0 σ H) (hd : ∀ σ H, Pv n σ H → D.nx σ H)
    (hs : ∀ (i : Nat) σ H, i < n → Pv i σ H → tb { D with nx := Pv (i + 1), ct := Pv (i + 1), bk := D.nx } (σ.set j (some (.int (i : Int)))) H) : tFor (iRng1 ta) (gName j) tb D σ H := by
  refine ha _ ⟨hi, rfl, by omega, by omega, ?_⟩
  rw [hn]
  refine for_range (lo := 0) Pv h0 (fun i σ H hi p => ?_) hd
  have e0 : (0 : Int) + (i : Int) = (i : Int) := Int.zero_add _
  show tb _ (σ.set j (some (.int ((0 : Int) + (i : Int))))) H
  rw [e0]
  exact hs i σ H hi p
theorem for_lst (ha : ∀ R, R (.ref a) H → tl σ H R) (hx : SqL K H a xs) (Pv : Nat → L2.St → Hp → Prop) (h0 : Pv 0 σ H) (hl : ∀ i σ' H', i ≤ xs.length → Pv i σ' H' → SqL K H' a xs) (hd : ∀ σ H, Pv xs.length σ H → D.nx σ H)
    (hs : ∀ (i : Nat) x σ H, xs[i]? = some x → Pv i σ H → g x σ H fun σ2 H2 => tb { D with nx := Pv (i + 1), ct := Pv (i + 1), bk := D.nx } σ2 H2) : tFor (iList K tl) g tb D σ H :=
  ha _ ⟨a, rfl, ⟨xs, hx⟩, for_list Pv h0 hl hs hd⟩
theorem for_tupl (ha : ∀ R, R (.ref a) H → tl σ H R) (hx : SqT K H a xs) (Pv : Nat → L2.St → Hp → Prop) (h0 : Pv 0 σ H) (hl : ∀ i σ' H', i ≤ xs.length → Pv i σ' H' → SqT K H' a xs) (hd : ∀ σ H, Pv xs.length σ H → D.nx σ H)
    (hs : ∀ (i : Nat) x σ H, xs[i]? = some x → Pv i σ H → g x σ H fun σ2 H2 => tb { D with nx := Pv (i + 1), ct := Pv (i + 1), bk := D.nx } σ2 H2) : tFor (iTup K tl) g tb D σ H :=
  ha _ ⟨a, rfl, ⟨xs, hx⟩, for_tup Pv h0 hl hs hd⟩
end

/-! ### isinstance by the name of a type -/
/-- v is the int n (some n), or no int (a bool is none) -/
def NotInt (K : PySem.W.Frag) (H : Hp) (v : V) : Prop := ∃ t b1 b2, TyX K H v (.type t) ∧ kitB t "int" = some b1 ∧ kitB t "bool" = some b2 ∧ (b1 && !b2) = false
def IntOr (K : PySem.W.Frag) (H : Hp) (v : V) : Option Int → Prop
  | some n => v = .int n
  | none => NotInt K H v
def whole (o : Option Int) (lo hi : Int) : Bool := match o with
  | some n => decide (lo ≤ n ∧ n ≤ hi)
  | none => false
theorem kit_int_int : kitB "int" "int" = some true := by decide +kernel
theorem kit_int_bool : kitB "int" "bool" = some false := by decide +kernel

theorem atI_0 {α : Type} {a : α} {l : List α} : atI (a :: l) 0 = some a := atI_nat (j := 0) rfl
theorem atI_1 {α : Type} {a b : α} {l : List α} : atI (a :: b :: l) 1 = some b := atI_nat (j := 1) rfl
theorem atI_2 {α : Type} {a b c : α} {l : List α} : atI (a :: b :: c :: l) 2 = some c := atI_nat (j := 2) rfl
theorem atI_3 {α : Type} {a b c d : α} {l : List α} : atI (a :: b :: c :: d :: l) 3 = some d := atI_nat (j := 3) rfl
theorem atI_of {α : Type} {xs : List α} {i : Int} {j : Nat} {v : α} (e : i = (j : Int)) (h : xs[j]? = some v) : atI xs i = some v := by rw [e]; exact atI_nat h
theorem ixN_of {n j : Nat} {i : Int} (e : i = (j : Int)) (h : j < n) : ixN n i = some j := by rw [e]; exact Evl.ixN_nat h
theorem ixN_30 : ixN 3 0 = some 0 := by decide
theorem ixN_31 : ixN 3 1 = some 1 := by decide
theorem ixN_32 : ixN 3 2 = some 2 := by decide
theorem iteN {c A B : Prop} [Decidable c] (h : c) (b : B) : if ¬ c then A else B := by rw [if_neg (fun n => n h)]; exact b
theorem iteY {c A B : Prop} [Decidable c] (h : c) (a : A) : if c then A else B := by rw [if_pos h]; exact a
theorem iteNo {c A B : Prop} [Decidable c] (h : ¬ c) (b : B) : if c then A else B := by rw [if_neg h]; exact b
theorem iteTF {A B : Prop} (h : B) : if true = false then A else B := by rw [if_neg (by decide)]; exact h
theorem iteFF {A B : Prop} (h : A) : if false = false then A else B := by rw [if_pos rfl]; exact h
/-! ### bounds -/
theorem big_pow {a b : Nat} (h : a * b < 100000) {x y : Nat} (hx : x ≤ 2 ^ a) (hy : y ≤ b) : ((x ^ y : Nat) : Int) < BIG := by
  have h1 : x ^ y ≤ (2 ^ a) ^ b := Nat.le_trans (Nat.pow_le_pow_left hx y) (Nat.pow_le_pow_right (Nat.pow_pos (by decide)) hy)
  rw [← Nat.pow_mul] at h1
  have h2 : (2 : Nat) ^ (a * b) < 2 ^ 100000 := Nat.pow_lt_pow_right (by decide) h
  have h3 : x ^ y < 2 ^ 100000 := Nat.lt_of_le_of_lt h1 h2
  unfold BIG
  have e : ((2 : Int) ^ 100000) = ((2 ^ 100000 : Nat) : Int) := by rw [Int.natCast_pow] <;> rfl
  rw [e]
  exact Int.ofNat_lt.mpr h3

/-! ### the end of a law -/
/-- what is known of a law's script -/
theorem passX {P : Program} {w : World} {fr : List Env} {H : Hp} {s s' : Shared} {e : Value} (h : L2.CX P w fr H s (fun _ _ _ => False) e s') : False := by
  obtain ⟨_, _, _, _, _, _, _, _, _, _, _, _, z⟩ := h
  exact z.elim
theorem med_pow {a b : Nat} (h : a * b < 1900) {x y : Nat} (hx : x ≤ 2 ^ a) (hy : y ≤ b) : ((x ^ y : Nat) : Int) < MED := by
  have h1 : x ^ y ≤ (2 ^ a) ^ b := Nat.le_trans (Nat.pow_le_pow_left hx y) (Nat.pow_le_pow_right (Nat.pow_pos (by decide)) hy)
  rw [← Nat.pow_mul] at h1
  have h2 : (2 : Nat) ^ (a * b) < 2 ^ 1900 := Nat.pow_lt_pow_right (by decide) h
  have h3 : x ^ y < 2 ^ 1900 := Nat.lt_of_le_of_lt h1 h2
  unfold MED
  have e : ((2 : Int) ^ 1900) = ((2 ^ 1900 : Nat) : Int) := by rw [Int.natCast_pow] <;> rfl
  rw [e]
  exact Int.ofNat_lt.mpr h3
theorem law_go {P : Program} {w : World} {K : PySem.W.Frag} {mg mb : Str → Option Value} {k : Nat} {fa a : Addr} {fd : FuncData} {x : Str} {sp : Sp} {s : Shared} {vs : List Value} {ns : List Int}
    (inK : K.In s.heap) (hns : s.heap.Ns mainGlobals mg) (hb : s.heap.Ns builtinsNs mb) (hbb : ∀ x : Str, x ≠ "__name__" → mb x = bootBuiltins x)
    (lim : s.heap.NoLimit) (hg : s.gens = #[]) (ha : s.heap.get? a = some { cls := .type "list", data := .seq vs.toArray })
    (hi : IntsAre vs ns) (hl : ns.length ≤ sizeLine) (hr : Room k callerA)
    (F : ∀ base : Heap, K.In base → base.Ns mainGlobals mg → GOk P w K mg base (L2.CX P w) k fa fd [x] sp)
    (bind : ∀ (s : Shared) (u : Value), BindsTo s fd ⟨[u], []⟩ [(x, u)])
    (hsp : ∀ H : Hp, Only H → SqL K H a (ns.map V.int) → sp [.ref a] H (fun v _ => v = .bl true) fun _ _ _ => False) :
    codeAny (model P w) callerA (.call (.ref fa) ⟨[.ref a], []⟩) (fun r s' => r = .ok (.ret (.bool true)) ∧ OldK s.heap s'.heap ∧ s'.os = s.os ∧ AllBare s'.gens) s := by
  have rv := vals_ints hi
  have lenV := hi.length
  suffices main : ∀ H : Hp, Only H → SqL K H a (ns.map V.int) → HOk P w H s.heap → (∀ b o, H b = some o → b = a ∧ K.lookup a = none) →
      codeAny (model P w) callerA (.call (.ref fa) ⟨[.ref a], []⟩) (fun r s' => r = .ok (.ret (.bool true)) ∧ OldK s.heap s'.heap ∧ s'.os = s.os ∧ AllBare s'.gens) s by
    cases hk : K.lookup a with
    | some o =>
      have e := (inK a o hk).symm.trans ha
      cases e
      exact main (fun _ => none) (fun _ => .inl rfl) (.inr ⟨_, vs.toArray, _, hk, rfl, rfl, rfl, by rw [List.size_toArray, lenV]; exact hl, by simpa using rv⟩)
        (fun _ _ z => nomatch z) (fun _ _ z => nomatch z)
    | none =>
      let ob : Obj := { cls := .type "list", data := .seq vs.toArray }
      have at_ : ∀ b u, (if b = a then some (HO.frz ob (.lst (ns.map V.int))) else none) = some u → b = a ∧ u = .frz ob (.lst (ns.map V.int)) := fun b u z => by
        by_cases q : b = a
        · rw [if_pos q] at z; exact ⟨q, (Option.some.inj z).symm⟩
        · rw [if_neg q] at z; cases z
      refine main (fun b => if b = a then some (.frz ob (.lst (ns.map V.int))) else none) (fun b => ?_) (.inl (.inr ⟨ob, if_pos rfl⟩)) (fun b u z => ?_) (fun b u z => ⟨(at_ b u z).1, hk⟩)
      · by_cases q : b = a
        · exact .inr ⟨_, _, if_pos q⟩
        · exact .inl (if_neg q)
      · obtain ⟨rfl, rfl⟩ := at_ b u z
        exact ⟨ha, by rw [List.length_map]; exact hl, vs, _, rv, ha⟩
  intro H hO hS hok hA
  have seen : ∀ {b : Addr} {o : Obj}, s.heap.get? b = some o → H b = none → (hidT s.heap H).get? b = some o := fun e n => hidT_get e n
  have nsK : ∀ {b : Addr} {m : Str → Option Value}, s.heap.Ns b m → (hidT s.heap H).Ns b m := by
    rintro b m ⟨o, es, ep, e, d, r⟩
    refine ⟨o, es, ep, seen e ?_, d, r⟩
    cases q : H b with
    | none => rfl
    | some u =>
      rw [(hA b u q).1, ha] at e
      cases e
      cases (show Data.seq vs.toArray _ = Data.dict es ep from d)
  have KB : K.In (hidT s.heap H) := fun b o e => seen (inK b o e) (by
    cases q : H b with
    | none => rfl
    | some u =>
      obtain ⟨e1, e2⟩ := hA b u q
      rw [e1, e2] at e
      cases e)
  obtain ⟨mc, l1, l2⟩ := lim
  have M : Mod K mg (hidT s.heap H) := ⟨KB, nsK hns, ⟨mb, nsK hb, hbb⟩, ⟨mc, nsK l1, l2⟩⟩
  have e0 : Env0 P w K mg (hidT s.heap H) callerA [] s H :=
    ⟨rfl, M, fun b o e => of_hidT e, Nat.le_of_eq (hidT_size _ _), trivial, fun b hb => (List.not_mem_nil (show b ∈ ([] : List Addr) from hb)).elim, hok, .of_eq hg⟩
  refine codeAny_mono ((F _ KB (nsK hns)).go callerA [] s H ⟨[.ref a], []⟩ [.ref a] [.ref a] _ _ hr rfl e0 (bind s (.ref a)) (.cons rfl .nil) (hsp H hO hS)) ?_
  rintro (e | fl) s' h
  · exact (passX h).elim
  · cases fl with
    | ret u =>
      obtain ⟨v, H', os, bare, un, hok', r', q⟩ := h
      cases (show v = .bl true from q)
      cases (show u = Value.bool true from r')
      refine ⟨rfl, OldK.of_keep fun b o e => ?_, os, bare⟩
      cases q : H b with
      | none => exact un.keep b o e q (fun z => List.not_mem_nil (show b ∈ ([] : List Addr) from z)) (by simp)
      | some u =>
        rcases hO b with z | ⟨ob, xs, z⟩
        · rw [q] at z; cases z
        · have e1 : s.heap.get? b = some ob := (hok b _ z).1
          have e2 : s'.heap.get? b = some ob := (hok' b _ (un.frzs b ob _ z)).1
          rw [e1] at e
          rw [e2, e]
    | _ => exact h.elim
/-- the goal behind the head, from the promise of the law's def -/
theorem walk_g {l : PySem.W.OpenLaw} {n k : Nat} {q : Program} {loose : List Str} {XP : (Str → Option Value) → Heap → Prop} {YP : World → Heap → Prop} {d : DefRec} {x : Str}
    (hn : l.most = some n) (hn2 : n ≤ sizeLine) (hdf : d.params.defaults = []) (hr : Room k callerA)
    (F : ∀ (w : World) (mg : Str → Option Value) (fa : Addr) (h : Heap), YP w h → h.Ns mainGlobals mg → mg d.name = some (.ref fa) →
      ∃ (K : PySem.W.Frag) (fd : FuncData) (sp : Sp), K.In h ∧ (∀ (s : Shared) (u : Value), BindsTo s fd ⟨[u], []⟩ [(x, u)]) ∧
        (∀ (H : Hp) (a : Addr) (ns : List Int), ns.length ≤ n → Only H → SqL K H a (ns.map V.int) → sp [.ref a] H (fun v _ => v = .bl true) fun _ _ _ => False) ∧
        ∀ base : Heap, K.In base → base.Ns mainGlobals mg → GOk l.prog w K mg base (L2.CX l.prog w) k fa fd [x] sp) :
    PySem.W.WalkO q loose XP YP l.row.toRowW d [] (fun f vs => PySem.call f vs) := by
  refine Att.attach_call hn hdf ?_
  intro w s₀ s₁ mg mb fa o pm cd doc a vs ns G Y ho hd hcd hmg hobj hints hlen hg
  obtain ⟨K, fd, sp, KX, hb, hsp, hF⟩ := F w mg fa _ Y G.T.g hmg
  exact law_go KX G.T.g G.T.b G.T.builtins G.T.nolimit hg hobj hints (Nat.le_trans hlen hn2) hr hF hb fun H hO hS => hsp H a ns hlen hO hS
theorem law_in {K : PySem.W.Frag} {H : Hp} {a : Addr} {ns : List Int} (hl : ns.length ≤ 63) (hS : SqL K H a (ns.map V.int)) {Q : VK} {E : XK} (hQ : ∀ H', Q (.bl true) H') :
    sp1 (fun x H Q _ => ∃ (a : Addr) (ns : List Int), x = .ref a ∧ SqL K H a (ns.map V.int) ∧ ns.length ≤ 63 ∧ ∀ H', Q (.bl true) H') [.ref a] H Q E := ⟨_, rfl, a, ns, rfl, hS, hl, hQ⟩
end Bs

namespace Bs
/-! ### reaches: the ways to choose, by adding up -/
def R : Nat → Nat → Nat
  | 0 => fun _ => 1
  | s + 1 => fun r => Nat.rec (motive := fun _ => Nat) 1 (fun k ih => R s (k + 1) + ih) r
theorem R_z (s : Nat) : R s 0 = 1 := by cases s <;> rfl
theorem R_0 (r : Nat) : R 0 r = 1 := rfl
theorem R_ss (s r : Nat) : R (s + 1) (r + 1) = R s (r + 1) + R (s + 1) r := rfl
theorem R_comm : ∀ s r : Nat, R s r = R r s
  | 0, r => by rw [R_0, R_z]
  | s + 1, 0 => by rw [R_0, R_z]
  | s + 1, r + 1 => by rw [R_ss, R_ss, R_comm s (r + 1), R_comm (s + 1) r, Nat.add_comm]
theorem R_pos (s r : Nat) : 0 < R s r := by
  induction s generalizing r with
  | zero => rw [R_0]; decide
  | succ s ih =>
    cases r with
    | zero => rw [R_z]; decide
    | succ r => rw [R_ss]; have := ih (r + 1); omega
/-- one slot more: times s + r + 1, over s + 1 -/
theorem R_up : ∀ s r : Nat, R (s + 1) r * (s + 1) = R s r * (s + r + 1)
  | 0, 0 => rfl
  | 0, r + 1 => by
    have ih := R_up 0 r
    rw [R_0] at ih ⊢
    rw [R_ss, R_0]
    omega
  | s + 1, 0 => by rw [R_z, R_z]
  | s + 1, r + 1 => by
    have h1 := R_up s (r + 1)
    have h2 := R_up (s + 1) r
    rw [R_ss (s + 1) r, Nat.add_mul, h2]
    rw [R_ss s r]
    rw [R_ss s r] at h1
    -- h1: (A + B)(s+1) = A (s + r + 2), A = R s (r+1), B = R (s+1) r
    generalize R s (r + 1) = A at *
    generalize R (s + 1) r = B at *
    have e1 : (A + B) * (s + 1) = A * s + A + B * s + B := by
      rw [Nat.mul_add, Nat.add_mul, Nat.mul_one]; omega
    have e2 : A * (s + (r + 1) + 1) = A * s + A * r + A + A := by
      rw [Nat.mul_add, Nat.mul_add, Nat.mul_add]; omega
    have e3 : (A + B) * (s + 1 + 1) = A * s + B * s + A + A + B + B := by
      rw [Nat.mul_add, Nat.mul_add, Nat.add_mul]; omega
    have e4 : B * (s + 1 + r + 1) = B * s + B + B * r + B := by
      rw [Nat.mul_add, Nat.mul_add, Nat.mul_add]; omega
    have e6 : ∀ X : Nat, X * (s + 1 + (r + 1) + 1) = X * s + X * r + X + X + X := fun X => by
      rw [Nat.mul_add, Nat.mul_add, Nat.mul_add, Nat.mul_add]; omega
    have e5 : (A + B) * (s + 1 + (r + 1) + 1) = A * s + A * r + A + A + A + (B * s + B * r + B + B + B) := by
      rw [Nat.add_mul, e6, e6]
    rw [e1, e2] at h1
    rw [e3, e4, e5]
    omega
theorem R_right (s r : Nat) : R s (r + 1) * (r + 1) = R s r * (s + r + 1) := by
  rw [R_comm s (r + 1), R_up r s, R_comm r s, Nat.add_comm r s]
theorem R_le : ∀ s r : Nat, R s r ≤ (r + 1) ^ s
  | 0, r => by rw [R_0, Nat.pow_zero]; exact Nat.le_refl _
  | s + 1, 0 => by rw [R_z]; exact Nat.pos_of_ne_zero (by simp)
  | s + 1, r + 1 => by
    have h1 := R_le s (r + 1)
    have h2 := R_le (s + 1) r
    rw [R_ss, Nat.pow_succ, Nat.mul_add, Nat.mul_one]
    have h3 : (r + 1) ^ (s + 1) ≤ (r + 1 + 1) ^ s * (r + 1) := by
      rw [Nat.pow_succ]
      exact Nat.mul_le_mul_right _ (Nat.pow_le_pow_left (Nat.le_succ _) s)
    omega
theorem R_mono_r (s r : Nat) : R s r ≤ R s (r + 1) := by
  cases s with
  | zero => exact Nat.le_refl _
  | succ s => rw [R_ss]; omega
theorem R_mono {s r r' : Nat} (h : r ≤ r') : R s r ≤ R s r' := by
  induction h with
  | refl => exact Nat.le_refl _
  | step _ ih => exact Nat.le_trans ih (R_mono_r _ _)
theorem R_mono_l {s s' r : Nat} (h : s ≤ s') : R s r ≤ R s' r := by
  rw [R_comm s, R_comm s']
  exact R_mono h
theorem R_one (r : Nat) : R 1 r = r + 1 := by
  induction r with
  | zero => rfl
  | succ r ih => rw [R_ss, R_0, ih]; omega
/-- with rounds that may be -1 -/
def Rz (s r : Int) : Int := if r < 0 then (if s ≤ 0 then 1 else 0) else (R s.toNat r.toNat : Nat)
theorem Rz_nat (s r : Nat) : Rz s r = (R s r : Nat) := by
  unfold Rz
  rw [if_neg (by omega)]
  rfl
theorem Rz_neg {s : Int} (h : 0 < s) : Rz s (-1) = 0 := by
  unfold Rz
  rw [if_pos (by omega), if_neg (by omega)]
theorem Rz_of {s r : Int} (hs : 0 ≤ s) (hr : 0 ≤ r) : Rz s r = (R s.toNat r.toNat : Nat) := by
  unfold Rz
  rw [if_neg (by omega)]
theorem Rz_zero {r : Int} : Rz 0 r = 1 := by
  unfold Rz
  split <;> rfl
theorem Rz_nonneg (s r : Int) : 0 ≤ Rz s r := by
  unfold Rz
  split
  · split <;> omega
  · omega
theorem Rz_pascal {s r : Int} (h1 : 1 < s) (h2 : 0 < r) : Rz s r = Rz (s - 1) r + Rz s (r - 1) := by
  obtain ⟨s, rfl⟩ := Int.eq_ofNat_of_zero_le (by omega : 0 ≤ s)
  obtain ⟨r, rfl⟩ := Int.eq_ofNat_of_zero_le (by omega : 0 ≤ r)
  obtain ⟨s, rfl⟩ : ∃ t, s = t + 1 := ⟨s - 1, by omega⟩
  obtain ⟨r, rfl⟩ : ∃ t, r = t + 1 := ⟨r - 1, by omega⟩
  rw [show ((s + 1 : Nat) : Int) - 1 = (s : Int) by omega, show ((r + 1 : Nat) : Int) - 1 = (r : Int) by omega, Rz_nat, Rz_nat, Rz_nat, R_ss]
  omega
theorem Rz_comm {s r : Int} (h1 : 0 ≤ s) (h2 : 0 ≤ r) : Rz s r = Rz r s := by
  rw [Rz_of h1 h2, Rz_of h2 h1, R_comm]
theorem Rz_one {r : Int} (h : 0 ≤ r) : Rz 1 r = r + 1 := by
  rw [Rz_of (by decide) h, show (1 : Int).toNat = 1 by rfl, R_one]
  omega
theorem Rz_r0 {s : Int} (h : 0 ≤ s) : Rz s 0 = 1 := by
  rw [Rz_of h (Int.le_refl _), show (0 : Int).toNat = 0 by rfl, R_z]
  rfl
/-- one turn of reach_of -/
theorem Rz_turn {j r : Int} (hj : 0 ≤ j) (hr : -1 ≤ r) : Rz j r * (r + (j + 1)) / (j + 1) = Rz (j + 1) r := by
  by_cases h : r < 0
  · have e : r = -1 := by omega
    subst e
    by_cases h0 : j = 0
    · subst h0; rfl
    · rw [Rz_neg (by omega), Rz_neg (by omega), Int.zero_mul, Int.zero_ediv]
  · obtain ⟨j, rfl⟩ := Int.eq_ofNat_of_zero_le hj
    obtain ⟨r, rfl⟩ := Int.eq_ofNat_of_zero_le (by omega : 0 ≤ r)
    have e1 : Rz (j : Int) r = (R j r : Nat) := Rz_nat j r
    have e2 : Rz ((j : Int) + 1) r = (R (j + 1) r : Nat) := Rz_nat (j + 1) r
    rw [e1, e2]
    have h := R_up j r
    have h2 : ((R j r : Nat) : Int) * ((r : Int) + ((j : Int) + 1)) = ((R (j + 1) r : Nat) : Int) * ((j : Int) + 1) := by
      have : (r : Int) + ((j : Int) + 1) = ((j + r + 1 : Nat) : Int) := by omega
      rw [this, show ((j : Int) + 1) = ((j + 1 : Nat) : Int) by omega, ← Int.natCast_mul, ← Int.natCast_mul, h]
    rw [h2]
    exact Int.mul_ediv_cancel _ (by omega)
/-- one turn of choosing from above: over n = s + r things, j of them -/
theorem R_turn {s r j : Nat} (hj : j < s + r) : R j (s + r - j) * (s + r - j) = R (j + 1) (s + r - (j + 1)) * (j + 1) := by
  obtain ⟨m, hm⟩ : ∃ m, s + r = j + 1 + m := ⟨s + r - (j + 1), by omega⟩
  rw [hm, show j + 1 + m - j = m + 1 by omega, show j + 1 + m - (j + 1) = m by omega]
  rw [R_right j m, R_up j m]
end Bs

namespace Bs
/-! ### rounds -/
def rhoA (s n : Nat) : Nat → Nat → Nat
  | 0, r => r
  | k + 1, r => if n ≤ R s r then r else rhoA s n k (r + 1)
/-- the least number of rounds that reach n states (1 slot or more) -/
def rhoN (n s : Nat) : Nat := rhoA s n n 0
theorem R_gt {s : Nat} (h : 1 ≤ s) (r : Nat) : r + 1 ≤ R s r := by
  have := R_mono_l (s := 1) (s' := s) (r := r) h
  rw [R_one] at this
  exact this
theorem rhoA_spec {s n : Nat} : ∀ (k r : Nat), n ≤ R s (r + k) → n ≤ R s (rhoA s n k r) ∧ r ≤ rhoA s n k r ∧ ∀ q, r ≤ q → q < rhoA s n k r → R s q < n
  | 0, r, h => ⟨h, Nat.le_refl _, fun q h1 h2 => by simp [rhoA] at h2; omega⟩
  | k + 1, r, h => by
    unfold rhoA
    split
    · rename_i h1
      exact ⟨h1, Nat.le_refl _, fun q h2 h3 => by omega⟩
    · rename_i h1
      obtain ⟨a, b, c⟩ := rhoA_spec k (r + 1) (by rw [show r + 1 + k = r + (k + 1) by omega]; exact h)
      refine ⟨a, by omega, fun q h2 h3 => ?_⟩
      by_cases e : q = r
      · subst e; omega
      · exact c q (by omega) h3
theorem rhoN_spec {n s : Nat} (h : 1 ≤ s) : n ≤ R s (rhoN n s) ∧ ∀ q, q < rhoN n s → R s q < n := by
  have h1 := R_gt h n
  obtain ⟨a, b, c⟩ := rhoA_spec (s := s) (n := n) n 0 (by rw [Nat.zero_add]; omega)
  exact ⟨a, fun q hq => c q (Nat.zero_le _) hq⟩
theorem rhoN_eq {n s r : Nat} (h : 1 ≤ s) (h1 : n ≤ R s r) (h2 : ∀ q, q < r → R s q < n) : rhoN n s = r := by
  obtain ⟨a, b⟩ := rhoN_spec (n := n) h
  rcases Nat.lt_trichotomy (rhoN n s) r with h3 | h3 | h3
  · have := h2 _ h3; omega
  · exact h3
  · have := b _ h3; omega
/-- the same over the ints -/
def rho (n s : Int) : Int := (rhoN n.toNat s.toNat : Nat)
theorem rho_nonneg (n s : Int) : 0 ≤ rho n s := by unfold rho; omega
theorem Rz_mono {s r r' : Int} (hs : 0 ≤ s) (h : r ≤ r') (h0 : -1 ≤ r) : Rz s r ≤ Rz s r' := by
  by_cases hr : r < 0
  · have e : r = -1 := by omega
    subst e
    by_cases h2 : s = 0
    · subst h2; rw [Rz_zero, Rz_zero]; exact Int.le_refl _
    · rw [Rz_neg (by omega)]; exact Rz_nonneg _ _
  · rw [Rz_of hs (by omega), Rz_of hs (by omega)]
    exact Int.ofNat_le.mpr (R_mono (by omega))
theorem Rz_gt {s r : Int} (hs : 1 ≤ s) (hr : 0 ≤ r) : r + 1 ≤ Rz s r := by
  rw [Rz_of (by omega) hr]
  have := R_gt (s := s.toNat) (by omega) r.toNat
  omega
theorem rho_reach {n s : Int} (hs : 1 ≤ s) : n ≤ Rz s (rho n s) := by
  unfold rho
  rw [Rz_of (by omega) (by omega)]
  have := (rhoN_spec (n := n.toNat) (s := s.toNat) (by omega)).1
  simp only [Int.toNat_natCast]
  omega
theorem rho_least {n s q : Int} (hn : 1 ≤ n) (hs : 1 ≤ s) (h0 : -1 ≤ q) (h : q < rho n s) : Rz s q < n := by
  by_cases hq : q < 0
  · have e : q = -1 := by omega
    subst e
    rw [Rz_neg (by omega)]; omega
  · rw [Rz_of (by omega) (by omega)]
    have := (rhoN_spec (n := n.toNat) (s := s.toNat) (by omega)).2 q.toNat (by unfold rho at h; omega)
    omega
theorem rho_eq {n s r : Int} (hn : 1 ≤ n) (hs : 1 ≤ s) (h0 : 0 ≤ r) (h1 : n ≤ Rz s r) (h2 : Rz s (r - 1) < n) : rho n s = r := by
  rcases Int.lt_trichotomy (rho n s) r with h | h | h
  · have a := rho_reach (n := n) hs
    have b := Rz_mono (s := s) (r := rho n s) (r' := r - 1) (by omega) (by omega) (by have := rho_nonneg n s; omega)
    omega
  · exact h
  · have := rho_least (q := r) hn hs (by omega) h
    omega
theorem rho_le {n s r : Int} (hn : 1 ≤ n) (hs : 1 ≤ s) (h0 : 0 ≤ r) : rho n s ≤ r ↔ n ≤ Rz s r := by
  constructor
  · intro h
    exact Int.le_trans (rho_reach hs) (Rz_mono (by omega) h (by have := rho_nonneg n s; omega))
  · intro h
    by_cases h2 : rho n s ≤ r
    · exact h2
    · have := rho_least (q := r) hn hs (by omega) (by omega)
      omega
theorem rho_lt {n s : Int} (hn : 1 ≤ n) (hs : 1 ≤ s) : rho n s < n := by
  have := (rho_le (n := n) (s := s) (r := n - 1) hn hs (by omega)).mpr (by have := Rz_gt (s := s) (r := n - 1) hs (by omega); omega)
  omega
/-! ### the least steps -/
def tz (n s : Int) : Int := rho n s * n - Rz (s + 1) (rho n s - 1)
/-- one round more or less is never more -/
theorem Rz_next {s r : Int} (hs : 0 ≤ s) (hr : 0 ≤ r) : Rz (s + 1) r = Rz s r + Rz (s + 1) (r - 1) := by
  by_cases h : r = 0
  · subst h
    rw [Rz_r0 (by omega), Rz_r0 hs, show (0 : Int) - 1 = -1 by rfl, Rz_neg (by omega)]
    rfl
  · by_cases h2 : s = 0
    · subst h2
      rw [show (0 : Int) + 1 = 1 by rfl, Rz_zero, Rz_one hr, Rz_one (by omega)]
      omega
    · have := Rz_pascal (s := s + 1) (r := r) (by omega) (by omega)
      rw [show s + 1 - 1 = s by omega] at this
      exact this
/-- the line of k rounds at n -/
def lin (n s k : Int) : Int := k * n - Rz (s + 1) (k - 1)
theorem lin_step {n s k : Int} (hs : 0 ≤ s) (hk : 0 ≤ k) : lin n s (k + 1) = lin n s k + (n - Rz s k) := by
  unfold lin
  rw [show k + 1 - 1 = k by omega, Rz_next hs hk, Int.add_mul, Int.one_mul]
  omega
theorem lin_up {n s : Int} (hs : 0 ≤ s) (k : Int) (hk : 0 ≤ k) : ∀ d : Nat, n ≤ Rz s k → lin n s (k + d) ≤ lin n s k
  | 0, _ => by simp
  | d + 1, h => by
    have ih := lin_up hs k hk d h
    have e := lin_step (n := n) (k := k + d) hs (by omega)
    have m := Rz_mono (s := s) (r := k) (r' := k + d) hs (by omega) (by omega)
    rw [show k + ((d + 1 : Nat) : Int) = k + d + 1 by omega, e]
    omega
theorem lin_down {n s : Int} (hs : 0 ≤ s) (k : Int) : ∀ d : Nat, 0 ≤ k - d → Rz s (k - 1) ≤ n → lin n s (k - d) ≤ lin n s k
  | 0, _, _ => by simp
  | d + 1, h0, h => by
    have ih := lin_down hs k d (by omega) h
    have e := lin_step (n := n) (k := k - (d + 1 : Nat)) hs h0
    have m := Rz_mono (s := s) (r := k - (d + 1 : Nat)) (r' := k - 1) hs (by omega) (by omega)
    rw [show k - ((d + 1 : Nat) : Int) + 1 = k - d by omega] at e
    omega
theorem tz_lin {n s : Int} : tz n s = lin n s (rho n s) := rfl
/-- t is the greatest of its lines -/
theorem tz_ge {n s k : Int} (hn : 1 ≤ n) (hs : 1 ≤ s) (hk : 0 ≤ k) : lin n s k ≤ tz n s := by
  rw [tz_lin]
  have h0 := rho_nonneg n s
  rcases Int.le_total (rho n s) k with h | h
  · have := lin_up (n := n) (s := s) (by omega) (rho n s) h0 (k - rho n s).toNat (rho_reach hs)
    rw [show rho n s + ((k - rho n s).toNat : Int) = k by omega] at this
    exact this
  · have h1 : Rz s (rho n s - 1) ≤ n := Int.le_of_lt (rho_least hn hs (by omega) (by omega))
    have := lin_down (n := n) (s := s) (by omega) (rho n s) (rho n s - k).toNat (by omega) h1
    rw [show rho n s - ((rho n s - k).toNat : Int) = k by omega] at this
    exact this
/-- .. and is the line of k rounds just where these reach -/
theorem tz_at {n s k : Int} (hn : 1 ≤ n) (hs : 1 ≤ s) (hk : 0 ≤ k) (h1 : Rz s (k - 1) ≤ n) (h2 : n ≤ Rz s k) : tz n s = lin n s k := by
  have h0 := rho_nonneg n s
  have hle : rho n s ≤ k := (rho_le hn hs hk).mpr h2
  by_cases e : rho n s = k
  · rw [tz_lin, e]
  · have hr := rho_reach (n := n) hs
    have hm := Rz_mono (s := s) (r := rho n s) (r' := k - 1) (by omega) (by omega) (by omega)
    have a := tz_ge (k := k) hn hs hk
    have b := lin_down (n := n) (s := s) (by omega) k (k - rho n s).toNat (by omega) h1
    rw [show k - ((k - rho n s).toNat : Int) = rho n s by omega] at b
    rw [tz_lin] at a ⊢
    omega
theorem tz_gt {n s k : Int} (hn : 1 ≤ n) (hs : 1 ≤ s) (hk : 0 ≤ k) (h : n < Rz s (k - 1) ∨ Rz s k < n) : lin n s k < tz n s := by
  rcases h with h | h
  · have hk1 : 1 ≤ k := by
      by_cases e : k = 0
      · subst e
        rw [show (0 : Int) - 1 = -1 by rfl, Rz_neg (by omega)] at h
        omega
      · omega
    have a := tz_ge (k := k - 1) hn hs (by omega)
    have e := lin_step (n := n) (s := s) (k := k - 1) (by omega) (by omega)
    rw [show k - 1 + 1 = k by omega] at e
    omega
  · have a := tz_ge (k := k + 1) hn hs (by omega)
    have e := lin_step (n := n) (s := s) (k := k) (by omega) hk
    omega
theorem rho_one {s : Int} (hs : 1 ≤ s) : rho 1 s = 0 := rho_eq (Int.le_refl _) hs (Int.le_refl _) (by rw [Rz_r0 (by omega)]; exact Int.le_refl _) (by rw [show (0 : Int) - 1 = -1 by rfl, Rz_neg (by omega)]; decide)
theorem rho_pos {n s : Int} (hn : 2 ≤ n) (hs : 1 ≤ s) : 1 ≤ rho n s := by
  have h0 := rho_nonneg n s
  have h := rho_reach (n := n) hs
  by_cases e : rho n s = 0
  · rw [e, Rz_r0 (by omega)] at h; omega
  · omega
theorem tz_one {s : Int} (hs : 1 ≤ s) : tz 1 s = 0 := by
  unfold tz
  rw [rho_one hs, show (0 : Int) - 1 = -1 by rfl, Rz_neg (by omega)]
  rfl
theorem tz_nonneg {n s : Int} (hn : 1 ≤ n) (hs : 1 ≤ s) : 0 ≤ tz n s := by
  have := tz_ge (k := 0) hn hs (Int.le_refl _)
  unfold lin at this
  rw [show (0 : Int) - 1 = -1 by rfl, Rz_neg (by omega)] at this
  omega
/-! ### splits -/
def fz (n s m : Int) : Int := m + tz (n - m) (s - 1) + tz m s
theorem lin_split {n s m r : Int} (hs : 2 ≤ s) (hr : 1 ≤ r) : m + lin (n - m) (s - 1) r + lin m s (r - 1) = lin n s r := by
  unfold lin
  have e := Rz_next (s := s) (r := r - 1) (by omega) (by omega)
  rw [show s - 1 + 1 = s by omega, show r - 1 - 1 = r - 2 by omega] at *
  rw [e, Int.mul_sub, Int.sub_mul, Int.one_mul]
  omega
/-- no split is better -/
theorem tz_le_fz {n s m : Int} (hs : 2 ≤ s) (h1 : 1 ≤ m) (h2 : m < n) : tz n s ≤ fz n s m := by
  have hr := rho_pos (n := n) (s := s) (by omega) (by omega)
  have e := lin_split (n := n) (m := m) hs hr
  have a := tz_ge (n := n - m) (s := s - 1) (k := rho n s) (by omega) (by omega) (by omega)
  have b := tz_ge (n := m) (s := s) (k := rho n s - 1) h1 (by omega) (by omega)
  unfold fz
  rw [tz_lin (n := n)]
  omega
/-- the stretch of the best ones -/
def Best (n s m : Int) : Prop := Rz s (rho n s - 2) ≤ m ∧ m ≤ Rz s (rho n s - 1) ∧ Rz (s - 1) (rho n s - 1) ≤ n - m ∧ n - m ≤ Rz (s - 1) (rho n s)
theorem tz_best {n s m : Int} (hs : 2 ≤ s) (h1 : 1 ≤ m) (h2 : m < n) (h : Best n s m) : fz n s m = tz n s := by
  have hr := rho_pos (n := n) (s := s) (by omega) (by omega)
  have e := lin_split (n := n) (m := m) hs hr
  obtain ⟨b1, b2, b3, b4⟩ := h
  have a := tz_at (n := n - m) (s := s - 1) (k := rho n s) (by omega) (by omega) (by omega) b3 b4
  have b := tz_at (n := m) (s := s) (k := rho n s - 1) h1 (by omega) (by omega) (by rw [show rho n s - 1 - 1 = rho n s - 2 by omega]; exact b1) b2
  unfold fz
  rw [a, b, tz_lin (n := n)]
  omega
theorem tz_lt_fz {n s m : Int} (hs : 2 ≤ s) (h1 : 1 ≤ m) (h2 : m < n) (h : ¬ Best n s m) : tz n s < fz n s m := by
  have hr := rho_pos (n := n) (s := s) (by omega) (by omega)
  have e := lin_split (n := n) (m := m) hs hr
  have a := tz_ge (n := n - m) (s := s - 1) (k := rho n s) (by omega) (by omega) (by omega)
  have b := tz_ge (n := m) (s := s) (k := rho n s - 1) h1 (by omega) (by omega)
  have c : lin (n - m) (s - 1) (rho n s) < tz (n - m) (s - 1) ∨ lin m s (rho n s - 1) < tz m s := by
    unfold Best at h
    by_cases q1 : Rz (s - 1) (rho n s - 1) ≤ n - m ∧ n - m ≤ Rz (s - 1) (rho n s)
    · refine .inr (tz_gt h1 (by omega) (by omega) ?_)
      rw [show rho n s - 1 - 1 = rho n s - 2 by omega]
      omega
    · exact .inl (tz_gt (by omega) (by omega) (by omega) (by omega))
  unfold fz
  rw [tz_lin (n := n)]
  omega
/-- there is a best one -/
theorem best_is {n s : Int} (hn : 2 ≤ n) (hs : 2 ≤ s) : ∃ m, 1 ≤ m ∧ m < n ∧ Best n s m := by
  have hr := rho_pos (n := n) (s := s) hn (by omega)
  have h1 := rho_reach (n := n) (s := s) (by omega)
  have h2 := rho_least (n := n) (s := s) (q := rho n s - 1) (by omega) (by omega) (by omega) (by omega)
  unfold Best
  generalize rho n s = r at *
  have e1 := Rz_next (s := s - 1) (r := r) (by omega) (by omega)
  rw [show s - 1 + 1 = s by omega] at e1
  have p1 : 1 ≤ Rz s (r - 1) := by have := Rz_gt (s := s) (r := r - 1) (by omega) (by omega); omega
  have p2 : 1 ≤ Rz (s - 1) (r - 1) := by have := Rz_gt (s := s - 1) (r := r - 1) (by omega) (by omega); omega
  have e2 := Rz_next (s := s - 1) (r := r - 1) (by omega) (by omega)
  rw [show s - 1 + 1 = s by omega, show r - 1 - 1 = r - 2 by omega] at e2
  have m1 := Rz_mono (s := s) (r := r - 2) (r' := r - 1) (by omega) (by omega) (by omega)
  have m2 := Rz_mono (s := s - 1) (r := r - 1) (r' := r) (by omega) (by omega) (by omega)
  have p0 := Rz_nonneg s (r - 2)
  -- the greatest of the lower ends
  refine ⟨max 1 (max (Rz s (r - 2)) (n - Rz (s - 1) r)), by omega, by omega, ?_⟩
  omega
/-- least and greatest best -/
def loz (n s : Int) : Int := max (max 1 (if rho n s > 1 then Rz s (rho n s - 2) else 0)) (n - Rz (s - 1) (rho n s))
def hiz (n s : Int) : Int := min (min (n - 1) (Rz s (rho n s - 1))) (n - Rz (s - 1) (rho n s - 1))
theorem best_iff {n s m : Int} (hn : 2 ≤ n) (hs : 2 ≤ s) (h1 : 1 ≤ m) (h2 : m < n) : Best n s m ↔ loz n s ≤ m ∧ m ≤ hiz n s := by
  have hr := rho_pos (n := n) (s := s) hn (by omega)
  unfold Best loz hiz
  by_cases e : rho n s > 1
  · rw [if_pos e]; omega
  · rw [if_neg e, show rho n s - 2 = -1 by omega, Rz_neg (by omega)]; omega
theorem loz_range {n s : Int} (hn : 2 ≤ n) (hs : 2 ≤ s) : 1 ≤ loz n s ∧ loz n s ≤ hiz n s ∧ hiz n s < n := by
  obtain ⟨m, h1, h2, h3⟩ := best_is hn hs
  obtain ⟨a, b⟩ := (best_iff hn hs h1 h2).mp h3
  refine ⟨?_, by omega, ?_⟩
  · unfold loz; omega
  · unfold hiz; omega
theorem tz_slot1 {n : Int} (hn : 1 ≤ n) : 2 * tz n 1 = n * (n - 1) := by
  have e : rho n 1 = n - 1 := rho_eq hn (Int.le_refl _) (by omega) (by rw [Rz_one (by omega)]; omega) (by
    by_cases h : n = 1
    · subst h; rw [show (1 : Int) - 1 - 1 = -1 by rfl, Rz_neg (by decide)]; decide
    · rw [Rz_one (by omega)]; omega)
  unfold tz
  rw [e, show (1 : Int) + 1 = 2 by rfl]
  have h2 : ∀ k : Nat, 2 * Rz 2 ((k : Int) - 1) = ((k : Int) + 1) * k := by
    intro k
    induction k with
    | zero => rw [show ((0 : Nat) : Int) - 1 = -1 by rfl, Rz_neg (by decide)]; rfl
    | succ k ih =>
      have e := Rz_next (s := 1) (r := (k : Int)) (by decide) (by omega)
      rw [show (1 : Int) + 1 = 2 by rfl, Rz_one (by omega)] at e
      rw [show ((k + 1 : Nat) : Int) - 1 = (k : Int) by omega, e]
      have e3 : (((k + 1 : Nat) : Int) + 1) * ((k + 1 : Nat) : Int) = ((k : Int) + 1) * k + 2 * ((k : Int) + 1) := by
        rw [show ((k + 1 : Nat) : Int) = (k : Int) + 1 by omega, Int.mul_add, Int.add_mul ((k : Int) + 1) 1 (k : Int)]
        omega
      rw [e3]
      omega
  obtain ⟨k, hk⟩ := Int.eq_ofNat_of_zero_le (show 0 ≤ n - 1 by omega)
  have e4 := h2 k
  rw [show n - 1 - 1 = (k : Int) - 1 by omega, hk]
  have e5 : n = (k : Int) + 1 := by omega
  rw [e5] at *
  rw [Int.mul_sub, e4, Int.mul_comm ((k : Int) + 1) (k : Int)]
  omega
end Bs

namespace Bs
open PySem PySem.Spec PyProof.Rows L2
open Evl (Ex)
def topS (i : Nat) : Stmt := PySem.Challenge.pw_backslots_k02_rounds_and_slots.main.body.getD i (.Pass ⟨0, 0, 0, 0⟩)
abbrev s_is_int : Stmt := topS 1
abbrev s_is_whole : Stmt := topS 2
abbrev s_require_length : Stmt := topS 12
abbrev s_require_slots : Stmt := topS 13
abbrev s_require_rounds : Stmt := topS 14
abbrev s_require_task : Stmt := topS 15
abbrev s_reach_of : Stmt := topS 16
abbrev s_rounds_of : Stmt := topS 17
abbrev s_least_rounds : Stmt := topS 18
abbrev s_least_slots : Stmt := topS 19
abbrev s_L_wound : Stmt := topS 21
abbrev s_L_spin : Stmt := topS 22
abbrev s_L_choose : Stmt := topS 23
abbrev s_L_great : Stmt := topS 24
abbrev s_L_small_right : Stmt := topS 25
abbrev s_L_right : Stmt := topS 26
abbrev s_law : Stmt := topS 27
structure Txt (P : Program) (w : World) (K : PySem.W.Frag) (mg : Str → Option Value) (base : Heap) where
  a_is_int : Addr
  fd_is_int : FuncData
  F_is_int : FnP K "is_int" "is_int" s_is_int a_is_int fd_is_int
  b_is_int : Binds K fd_is_int ["value"] []
  g_is_int : mg "is_int" = some (.ref a_is_int)
  a_is_whole : Addr
  fd_is_whole : FuncData
  F_is_whole : FnP K "is_whole" "is_whole" s_is_whole a_is_whole fd_is_whole
  b_is_whole : Binds K fd_is_whole ["value", "low", "high"] []
  g_is_whole : mg "is_whole" = some (.ref a_is_whole)
  a_require_length : Addr
  fd_require_length : FuncData
  F_require_length : FnP K "require_length" "require_length" s_require_length a_require_length fd_require_length
  b_require_length : Binds K fd_require_length ["value"] []
  g_require_length : mg "require_length" = some (.ref a_require_length)
  a_require_slots : Addr
  fd_require_slots : FuncData
  F_require_slots : FnP K "require_slots" "require_slots" s_require_slots a_require_slots fd_require_slots
  b_require_slots : Binds K fd_require_slots ["value"] []
  g_require_slots : mg "require_slots" = some (.ref a_require_slots)
  a_require_rounds : Addr
  fd_require_rounds : FuncData
  F_require_rounds : FnP K "require_rounds" "require_rounds" s_require_rounds a_require_rounds fd_require_rounds
  b_require_rounds : Binds K fd_require_rounds ["value"] []
  g_require_rounds : mg "require_rounds" = some (.ref a_require_rounds)
  a_require_task : Addr
  fd_require_task : FuncData
  F_require_task : FnP K "require_task" "require_task" s_require_task a_require_task fd_require_task
  b_require_task : Binds K fd_require_task ["length", "slots"] []
  g_require_task : mg "require_task" = some (.ref a_require_task)
  a_reach_of : Addr
  fd_reach_of : FuncData
  F_reach_of : FnP K "reach_of" "reach_of" s_reach_of a_reach_of fd_reach_of
  b_reach_of : Binds K fd_reach_of ["slots", "rounds"] []
  g_reach_of : mg "reach_of" = some (.ref a_reach_of)
  a_rounds_of : Addr
  fd_rounds_of : FuncData
  F_rounds_of : FnP K "rounds_of" "rounds_of" s_rounds_of a_rounds_of fd_rounds_of
  b_rounds_of : Binds K fd_rounds_of ["length", "slots"] []
  g_rounds_of : mg "rounds_of" = some (.ref a_rounds_of)
  a_least_rounds : Addr
  fd_least_rounds : FuncData
  F_least_rounds : FnP K "least_rounds" "least_rounds" s_least_rounds a_least_rounds fd_least_rounds
  b_least_rounds : Binds K fd_least_rounds ["length", "slots"] []
  g_least_rounds : mg "least_rounds" = some (.ref a_least_rounds)
  a_least_slots : Addr
  fd_least_slots : FuncData
  F_least_slots : FnP K "least_slots" "least_slots" s_least_slots a_least_slots fd_least_slots
  b_least_slots : Binds K fd_least_slots ["length", "rounds"] []
  g_least_slots : mg "least_slots" = some (.ref a_least_slots)
  a_L_wound : Addr
  fd_L_wound : FuncData
  F_L_wound : FnP K "_law_wound" "_law_wound" s_L_wound a_L_wound fd_L_wound
  b_L_wound : Binds K fd_L_wound ["_law_script", "_law_k"] []
  g_L_wound : mg "_law_wound" = some (.ref a_L_wound)
  a_L_spin : Addr
  fd_L_spin : FuncData
  F_L_spin : FnP K "_law_spin" "_law_spin" s_L_spin a_L_spin fd_L_spin
  b_L_spin : Binds K fd_L_spin ["_law_reel", "_law_many"] []
  g_L_spin : mg "_law_spin" = some (.ref a_L_spin)
  a_L_choose : Addr
  fd_L_choose : FuncData
  F_L_choose : FnP K "_law_choose" "_law_choose" s_L_choose a_L_choose fd_L_choose
  b_L_choose : Binds K fd_L_choose ["_law_slots", "_law_rounds"] []
  g_L_choose : mg "_law_choose" = some (.ref a_L_choose)
  a_L_great : Addr
  fd_L_great : FuncData
  F_L_great : FnP K "_law_great" "_law_great" s_L_great a_L_great fd_L_great
  b_L_great : Binds K fd_L_great ["_law_reel"] []
  g_L_great : mg "_law_great" = some (.ref a_L_great)
  a_L_small_right : Addr
  fd_L_small_right : FuncData
  F_L_small_right : FnP K "_law_small_right" "_law_small_right" s_L_small_right a_L_small_right fd_L_small_right
  b_L_small_right : Binds K fd_L_small_right ["_law_most", "_law_slots"] []
  g_L_small_right : mg "_law_small_right" = some (.ref a_L_small_right)
  a_L_right : Addr
  fd_L_right : FuncData
  F_L_right : FnP K "_law_right" "_law_right" s_L_right a_L_right fd_L_right
  b_L_right : Binds K fd_L_right ["_law_reel"] []
  g_L_right : mg "_law_right" = some (.ref a_L_right)
  a_law : Addr
  fd_law : FuncData
  F_law : FnP K "law" "law" s_law a_law fd_law
  b_law : Binds K fd_law ["_law_script"] []
  g_law : mg "law" = some (.ref a_law)
  n_isinstance : mg "isinstance" = none
  n_int : mg "int" = none
  n_bool : mg "bool" = none
  n_range : mg "range" = none
  n_len : mg "len" = none
  n_max : mg "max" = none
  n_min : mg "min" = none
  n_repr : mg "repr" = none
  t_MOST_LENGTH : Tok
  c_MOST_LENGTH : mg "MOST_LENGTH" = some (.int 1000000000000000000000000000000 t_MOST_LENGTH)
  t_MOST_SLOTS : Tok
  c_MOST_SLOTS : mg "MOST_SLOTS" = some (.int 100 t_MOST_SLOTS)
  t_MOST_ROUNDS : Tok
  c_MOST_ROUNDS : mg "MOST_ROUNDS" = some (.int 1000 t_MOST_ROUNDS)
theorem cxOf_K {C : CXT} {P : Program} {w : World} {K : PySem.W.Frag} {mg : Str → Option Value} {base : Heap} {N : List Str} {q : Str} {sc : Scope} {f : Addr} {cd : Value} {A : Around} {o : List Env} {s : Shared} {H : Hp} {E : XK} : (cxOf C P w K mg base N q sc f cd A o s H E).K = K := rfl
local macro_rules | `(tactic| walk_at "rd") => `(tactic| simp only [L2.start, List.map_cons, List.map_nil, List.length_cons, List.length_nil, Nat.reduceAdd, Nat.reduceSub, Nat.zero_add, List.replicate, List.cons_append, List.nil_append,
  cxOf_K, tSeq, tAsg, gName, tVar, tC, tOp, tUn, rI, rI0, rU, tCB, tCons, tNil, tIfS, tTest, tB, tAnd, tOr, tNot, tAndV, tOrV, tNotV, tIf, tRet, tRetN, tDrop, tNext, tBreak, tCont, tNever, tPar, tAug, ipI, tChain, gTup, gTupT, gCons, gNil, tTup, tLst, tCall, gSub,
  rSetL, rIxL, rIxT, rIxLT, rIxTT, CPowC, sizeLine_eq, Nat.reduceLeDiff, gt_iff_lt, ge_iff_le, Int.reduceMod, Int.reduceDiv, atI_0, atI_1, atI_2, atI_3, ixN_30, ixN_31, ixN_32, upd_same, HO.lst.injEq, HO.tup.injEq, Int.reduceLE, Int.reduceLT, rEq, rNe, sp0, sp1, sp2, sp3, sp4, sp5, tNoPart, tPart, tSl, scal, rRep, rCat, rReprD, rReprI, rEqF, rNeF,
  List.append_nil, List.getElem?_cons_zero, List.getElem?_cons_succ, List.set_cons_zero, List.set_cons_succ, List.set_nil,
  Option.some.injEq, V.int.injEq, V.bl.injEq, V.str.injEq, V.ref.injEq, V.ty.injEq, List.cons.injEq, and_true, true_and, exists_eq_left', exists_eq_left, exists_eq_right, exists_and_left, eq_self, exists_eq, exists_eq', and_assoc,
  decide_eq_true_eq, Bool.not_eq_true', Bool.not_eq_true, decide_eq_false_iff_not, Bool.false_eq_true, if_true, if_false, ite_true, ite_false, Bool.not_true, Bool.not_false, Bool.true_eq_false, ↓reduceIte,
  Int.reduceToNat, Int.reducePow, Int.reduceAdd, Int.reduceMul, Int.reduceNeg, Int.reduceSub, reduceCtorEq, false_and, and_false, exists_false, false_or, or_false])
local macro_rules | `(tactic| walk_at "ar") => `(tactic| first | omega | (have hB := big_200; first | omega | (unfold CMulB; omega) | (unfold CDivB; omega) | (unfold CPowW; omega)) | decide)
section
variable {P : Program} {w : World} {K : PySem.W.Frag} {mg : Str → Option Value} {base : Heap}
/-! ### checks -/
def sp_is_int (K : PySem.W.Frag) : Sp := sp1 fun a H Q _ => ∃ o, IntOr K H a o ∧ Q (.bl o.isSome) H
theorem sc_is_int : FnScope ["value"] ["value"] (defScope s_is_int) := ⟨rfl, rfl, rfl, by decide +kernel, rfl, by decide +kernel, by decide +kernel⟩
theorem ok_is_int (T : Txt P w K mg base) : GOk P w K mg base (L2.CX P w) 1 T.a_is_int T.fd_is_int ["value"] (sp_is_int K) := by
  refine FunD.gok T.F_is_int sc_is_int (fun vs H Q E h => ar1 h) (fun cdv A fr s H vs Q E hr hc h => ⟨_, PSs.nox (pss_one (ps_ret (pe_and (pe_callB call_isi (by rfl) T.n_isinstance (by decide +kernel) (pa_cons (pv 0) (pa_cons (pe_bltn (v := .ty "int") (by rfl) T.n_int (by decide +kernel) rfl) pa_nil))) (pe_one (pe_not (pe_callB call_isi (by rfl) T.n_isinstance (by decide +kernel) (pa_cons (pv 0) (pa_cons (pe_bltn (v := .ty "bool") (by rfl) T.n_bool (by decide +kernel) rfl) pa_nil)))))))), ?_⟩)
  obtain ⟨_, rfl, o, h, q⟩ := h
  walk_at "rd"
  cases o with
  | some n =>
    cases h
    refine ⟨.int n, .ty "int", .type "int", .type "int", true, rfl, .ty _, .base (.int _), kit_ty kit_int_int, true, rfl, iteT ?_⟩
    exact ⟨.int n, .ty "bool", .type "int", .type "bool", false, rfl, .ty _, .base (.int _), kit_ty kit_int_bool, false, rfl, q⟩
  | none =>
    obtain ⟨t, b1, b2, ty, k1, k2, e⟩ := h
    refine ⟨_, .ty "int", .type t, .type "int", b1, rfl, .ty _, ty, kit_ty k1, b1, rfl, ?_⟩
    cases b1 with
    | false => exact iteF q
    | true =>
      refine iteT ⟨_, .ty "bool", .type t, .type "bool", b2, rfl, .ty _, ty, kit_ty k2, b2, rfl, ?_⟩
      have e2 : (!b2) = false := by simpa using e
      rw [e2]
      exact q
def sp_is_whole (K : PySem.W.Frag) : Sp := sp3 fun a b c H Q _ => ∃ (o : Option Int) (lo hi : Int), IntOr K H a o ∧ b = .int lo ∧ c = .int hi ∧ Q (.bl (whole o lo hi)) H
theorem sc_is_whole : FnScope ["value", "low", "high"] ["value", "low", "high"] (defScope s_is_whole) := ⟨rfl, rfl, rfl, by decide +kernel, rfl, by decide +kernel, by decide +kernel⟩
theorem ok_is_whole (T : Txt P w K mg base) : GOk P w K mg base (L2.CX P w) 2 T.a_is_whole T.fd_is_whole ["value", "low", "high"] (sp_is_whole K) := by
  refine FunD.gok T.F_is_whole sc_is_whole (fun vs H Q E h => ar3 h) (fun cdv A fr s H vs Q E hr hc h => ⟨_, PSs.nox (pss_one (ps_ret (pe_and (pe_callG (ok_is_int T) hr hc (by rfl) T.g_is_int T.F_is_int.kp T.b_is_int .nil passL (pa_cons (pv 0) pa_nil)) (pe_one (pe_chain op_le op_le (pv 1) (pv 0) (pv 2)))))), ?_⟩)
  obtain ⟨_, _, _, rfl, o, lo, hi, h, rfl, rfl, q⟩ := h
  walk_at "rd"
  unfold sp_is_int
  walk_at "rd"
  refine ⟨o, h, ?_⟩
  cases o with
  | none => exact q
  | some n =>
    cases h
    have e : whole (some n) lo hi = (decide (lo ≤ n) && decide (n ≤ hi)) := by unfold whole; simp
    rw [e] at q
    simp only [Option.isSome_some]
    walk_at "rd"
    refine ite2 (fun h => ?_) (fun h => ?_)
    · rw [decide_eq_true h, Bool.true_and] at q
      exact q
    · rw [decide_eq_false h, Bool.false_and] at q
      exact q
/-! ### reaches -/
def sp_require_slots (K : PySem.W.Frag) : Sp := sp1 fun a H Q _ => ∃ (n : Int), a = .int n ∧ 1 ≤ n ∧ n ≤ 100 ∧ Q .non H
theorem sc_require_slots : FnScope ["value"] ["value"] (defScope s_require_slots) := ⟨rfl, rfl, rfl, by decide +kernel, rfl, by decide +kernel, by decide +kernel⟩
theorem ok_require_slots (T : Txt P w K mg base) : GOk P w K mg base (L2.CX P w) 3 T.a_require_slots T.fd_require_slots ["value"] (sp_require_slots K) := by
  refine FunD.gok T.F_require_slots sc_require_slots (fun vs H Q E h => ar1 h) (fun cdv A fr s H vs Q E hr hc h => ⟨_, PSs.nox (pss_one (ps_if (pt_not (pt_val (pe_callG (ok_is_whole T) hr hc (by rfl) T.g_is_whole T.F_is_whole.kp T.b_is_whole .nil passL (pa_cons (pv 0) (pa_cons pe_int (pa_cons (pe_glob (v := .int 100) (by rfl) T.c_MOST_SLOTS ⟨_, rfl⟩) pa_nil)))))) (pss_one ps_never) pss_nil)), ?_⟩)
  obtain ⟨_, rfl, n, rfl, h1, h2, q⟩ := h
  walk_at "rd"
  unfold sp_is_whole
  walk_at "rd"
  refine ⟨some n, rfl, ?_⟩
  have e : whole (some n) 1 100 = true := by unfold whole; exact decide_eq_true ⟨h1, h2⟩
  rw [e]
  exact iteTF q
def sp_require_rounds (K : PySem.W.Frag) : Sp := sp1 fun a H Q _ => ∃ (n : Int), a = .int n ∧ 0 ≤ n ∧ n ≤ 1000 ∧ Q .non H
theorem sc_require_rounds : FnScope ["value"] ["value"] (defScope s_require_rounds) := ⟨rfl, rfl, rfl, by decide +kernel, rfl, by decide +kernel, by decide +kernel⟩
theorem ok_require_rounds (T : Txt P w K mg base) : GOk P w K mg base (L2.CX P w) 3 T.a_require_rounds T.fd_require_rounds ["value"] (sp_require_rounds K) := by
  refine FunD.gok T.F_require_rounds sc_require_rounds (fun vs H Q E h => ar1 h) (fun cdv A fr s H vs Q E hr hc h => ⟨_, PSs.nox (pss_one (ps_if (pt_not (pt_val (pe_callG (ok_is_whole T) hr hc (by rfl) T.g_is_whole T.F_is_whole.kp T.b_is_whole .nil passL (pa_cons (pv 0) (pa_cons pe_int (pa_cons (pe_glob (v := .int 1000) (by rfl) T.c_MOST_ROUNDS ⟨_, rfl⟩) pa_nil)))))) (pss_one ps_never) pss_nil)), ?_⟩)
  obtain ⟨_, rfl, n, rfl, h1, h2, q⟩ := h
  walk_at "rd"
  unfold sp_is_whole
  walk_at "rd"
  refine ⟨some n, rfl, ?_⟩
  have e : whole (some n) 0 1000 = true := by unfold whole; exact decide_eq_true ⟨h1, h2⟩
  rw [e]
  exact iteTF q
def sp_require_length (K : PySem.W.Frag) : Sp := sp1 fun a H Q _ => ∃ (n : Int), a = .int n ∧ 1 ≤ n ∧ n ≤ 10 ^ 30 ∧ Q .non H
theorem sc_require_length : FnScope ["value"] ["value"] (defScope s_require_length) := ⟨rfl, rfl, rfl, by decide +kernel, rfl, by decide +kernel, by decide +kernel⟩
theorem ok_require_length (T : Txt P w K mg base) : GOk P w K mg base (L2.CX P w) 3 T.a_require_length T.fd_require_length ["value"] (sp_require_length K) := by
  refine FunD.gok T.F_require_length sc_require_length (fun vs H Q E h => ar1 h) (fun cdv A fr s H vs Q E hr hc h => ⟨_, PSs.nox (pss_one (ps_if (pt_not (pt_val (pe_callG (ok_is_whole T) hr hc (by rfl) T.g_is_whole T.F_is_whole.kp T.b_is_whole .nil passL (pa_cons (pv 0) (pa_cons pe_int (pa_cons (pe_glob (v := .int 1000000000000000000000000000000) (by rfl) T.c_MOST_LENGTH ⟨_, rfl⟩) pa_nil)))))) (pss_one ps_never) pss_nil)), ?_⟩)
  obtain ⟨_, rfl, n, rfl, h1, h2, q⟩ := h
  walk_at "rd"
  unfold sp_is_whole
  walk_at "rd"
  refine ⟨some n, rfl, ?_⟩
  have e : whole (some n) 1 1000000000000000000000000000000 = true := by unfold whole; exact decide_eq_true ⟨h1, by omega⟩
  rw [e]
  exact iteTF q
def sp_require_task (K : PySem.W.Frag) : Sp := sp2 fun a b H Q _ => ∃ (n s : Int), a = .int n ∧ b = .int s ∧ 1 ≤ n ∧ n ≤ 10 ^ 30 ∧ 1 ≤ s ∧ s ≤ 100 ∧ Q .non H
theorem sc_require_task : FnScope ["length", "slots"] ["length", "slots"] (defScope s_require_task) := ⟨rfl, rfl, rfl, by decide +kernel, rfl, by decide +kernel, by decide +kernel⟩
theorem ok_require_task (T : Txt P w K mg base) : GOk P w K mg base (L2.CX P w) 4 T.a_require_task T.fd_require_task ["length", "slots"] (sp_require_task K) := by
  refine FunD.gok T.F_require_task sc_require_task (fun vs H Q E h => ar2 h) (fun cdv A fr s H vs Q E hr hc h => ⟨_, PSs.nox (pss_cons (ps_expr (pe_callG (ok_require_length T) hr hc (by rfl) T.g_require_length T.F_require_length.kp T.b_require_length .nil passL (pa_cons (pv 0) pa_nil))) (pss_one (ps_expr (pe_callG (ok_require_slots T) hr hc (by rfl) T.g_require_slots T.F_require_slots.kp T.b_require_slots .nil passL (pa_cons (pv 1) pa_nil))))), ?_⟩)
  obtain ⟨_, _, rfl, n, s, rfl, rfl, h1, h2, h3, h4, q⟩ := h
  walk_at "rd"
  unfold sp_require_length sp_require_slots
  walk_at "rd"
  exact ⟨h1, by omega, h3, h4, q⟩
def sp_reach_of (K : PySem.W.Frag) : Sp := sp2 fun a b H Q _ => ∃ (s r : Int), a = .int s ∧ b = .int r ∧ 0 ≤ s ∧ s ≤ 101 ∧ -1 ≤ r ∧ r ≤ 2 ^ 110 ∧ Q (.int (Rz s r)) H
theorem Rz_big {s r : Int} (h1 : s ≤ 102) (h2 : r ≤ 2 ^ 112) : Rz s r < BIG := by
  unfold Rz
  have hB := big_200
  split
  · split <;> omega
  · have h := R_le s.toNat r.toNat
    have h3 : (((r.toNat + 1) ^ s.toNat : Nat) : Int) < BIG := big_pow (a := 113) (b := 102) (by decide) (by omega) (by omega)
    omega
theorem sc_reach_of : FnScope ["slots", "rounds", "found", "turn"] ["slots", "rounds"] (defScope s_reach_of) := ⟨rfl, rfl, rfl, by decide +kernel, rfl, by decide +kernel, by decide +kernel⟩
theorem ok_reach_of (T : Txt P w K mg base) : GOk P w K mg base (L2.CX P w) 1 T.a_reach_of T.fd_reach_of ["slots", "rounds"] (sp_reach_of K) := by
  refine FunD.gok T.F_reach_of sc_reach_of (fun vs H Q E h => ar2 h) (fun cdv A fr s H vs Q E hr hc h => ⟨_, PSs.nox (pss_cons (ps_set (i := 2) sc_reach_of.nd rfl (.inl rfl) pe_int) (pss_cons (ps_for PassesOwn.never rfl (pi_range2 (by rfl) T.n_range (pa_cons pe_int (pa_cons (pe_op op_add (pv 0) pe_int) pa_nil))) (pg_name (i := 3) sc_reach_of.nd rfl (.inl rfl)) (pss_one (ps_set (i := 2) sc_reach_of.nd rfl (.inl rfl) (pe_op op_divB (pe_op op_mulB (pv 2) (pe_op op_add (pv 1) (pv 3))) (pv 3))))) (pss_one (ps_ret (pv 2))))), ?_⟩)
  obtain ⟨_, _, rfl, s, r, rfl, rfl, h1, h2, h3, h4, q⟩ := h
  walk_at "rd"
  refine for_rng2 (lo := 1) (hi := s + 1) s.toNat (fun R q => by walk_at "rd"; exact q) (by omega) (by omega)
    (fun i σ H' => H' = H ∧ ∃ x, σ = [some (.int s), some (.int r), some (.int (Rz i r)), x]) ⟨rfl, none, by rw [show ((0 : Nat) : Int) = 0 by rfl, Rz_zero]⟩ ?_ ?_
  · rintro σ H' ⟨rfl, x, rfl⟩
    walk_at "rd"
    rw [show ((s.toNat : Nat) : Int) = s by omega]
    exact q
  · rintro i σ H' hi ⟨rfl, x, rfl⟩
    walk_at "rd"
    have b1 : Rz (i : Int) r < BIG := Rz_big (by omega) (by omega)
    have b2 := Rz_nonneg (i : Int) r
    have hB := big_200
    refine ⟨⟨⟨by omega, by omega⟩, by omega, by omega⟩, ⟨by omega, by omega⟩, ?_⟩
    rw [show (1 : Int) + (i : Int) = (i : Int) + 1 by omega, Rz_turn (by omega) h3]
    rfl
def sp_rounds_of (K : PySem.W.Frag) : Sp := sp2 fun a b H Q _ => ∃ (n s : Int), a = .int n ∧ b = .int s ∧ 1 ≤ n ∧ n ≤ 10 ^ 30 ∧ 1 ≤ s ∧ s ≤ 101 ∧ ∀ H', Ex H H' → Q (.int (rho n s)) H'
theorem sc_rounds_of : FnScope ["length", "slots", "low", "high", "middle"] ["length", "slots"] (defScope s_rounds_of) := ⟨rfl, rfl, rfl, by decide +kernel, rfl, by decide +kernel, by decide +kernel⟩
theorem ok_rounds_of (T : Txt P w K mg base) : GOk P w K mg base (L2.CX P w) 2 T.a_rounds_of T.fd_rounds_of ["length", "slots"] (sp_rounds_of K) := by
  refine FunD.gok T.F_rounds_of sc_rounds_of (fun vs H Q E h => ar2 h) (fun cdv A fr s H vs Q E hr hc h => ⟨_, PSs.nox (pss_cons (ps_asg (pe_tup (pa_cons (pe_un un_neg pe_int) (pa_cons pe_int pa_nil))) (pg_tupT (n := 2) rfl (pgs_cons (pg_name (i := 2) sc_rounds_of.nd rfl (.inl rfl)) (pgs_cons (pg_name (i := 3) sc_rounds_of.nd rfl (.inl rfl)) pgs_nil)))) (pss_cons (ps_while PassesOwn.never (pt_cmpR op_lt (pe_callG (ok_reach_of T) hr hc (by rfl) T.g_reach_of T.F_reach_of.kp T.b_reach_of .nil passL (pa_cons (pv 1) (pa_cons (pv 3) pa_nil))) (pv 0) (nomark _)) (pss_one (ps_par (i := 2) (j := 3) (by rfl) sc_rounds_of.nd rfl rfl (by decide) rfl rfl (pa_cons (pv 3) (pa_cons (pe_op op_mulB pe_int (pv 3)) pa_nil)) (by rfl)))) (pss_cons (ps_while PassesOwn.never (pt_cmpR op_gt (pe_op op_sub (pv 3) (pv 2)) pe_int (nomark _)) (pss_cons (ps_set (i := 4) sc_rounds_of.nd rfl (.inl rfl) (pe_op op_divB (pe_op op_add (pv 2) (pv 3)) pe_int)) (pss_one (ps_if (pt_cmpR op_lt (pe_callG (ok_reach_of T) hr hc (by rfl) T.g_reach_of T.F_reach_of.kp T.b_reach_of .nil passL (pa_cons (pv 1) (pa_cons (pv 4) pa_nil))) (pv 0) (nomark _)) (pss_one (ps_set (i := 2) sc_rounds_of.nd rfl (.inl rfl) (pv 4))) (pss_one (ps_set (i := 3) sc_rounds_of.nd rfl (.inl rfl) (pv 4))))))) (pss_one (ps_ret (pv 3)))))), ?_⟩)
  obtain ⟨_, _, rfl, n, s, rfl, rfl, h1, h2, h3, h4, q⟩ := h
  walk_at "rd"
  intro p hp
  refine ⟨fun m σ H' => Ex H H' ∧ ∃ low high x, σ = [some (.int n), some (.int s), some (.int low), some (.int high), x] ∧ -1 ≤ low ∧ low < high ∧ 1 ≤ high ∧ high ≤ 2 * n ∧ Rz s low < n ∧ m = (2 * n - high).toNat,
    ⟨_, exn hp, -1, 1, _, rfl, by omega, by omega, by omega, by omega, by rw [Rz_neg (by omega)]; omega, rfl⟩, ?_⟩
  rintro m σ H' ⟨eH, low, high, x, rfl, l1, l2, l3, l4, l5, rfl⟩
  walk_at "rd"
  unfold sp_reach_of
  walk_at "rd"
  refine ⟨by omega, by omega, by omega, by omega, ?_⟩
  refine ite2 (fun hlt => ?_) (fun hge => ?_)
  · have hg := Rz_gt (s := s) (r := high) h3 (by omega)
    refine ⟨fun σ' H'' => H'' = H' ∧ ∃ low' high' x', σ' = [some (.int n), some (.int s), some (.int low'), some (.int high'), x'] ∧ -1 ≤ low' ∧ low' < high' ∧ 1 ≤ high' ∧ high' ≤ 2 * n ∧ Rz s low' < n ∧ high < high',
      fun σ' H'' ⟨e, low', high', x', e1, e2, e3, e4, e5, e6, e7⟩ => ⟨_, ?_, by rw [e]; exact eH, low', high', x', e1, e2, e3, e4, e5, e6, rfl⟩, ?_, ?_⟩
    · omega
    · unfold CMulB; have hB := big_200; omega
    · refine ⟨rfl, high, 2 * high, x, rfl, by omega, by omega, by omega, by omega, hlt, by omega⟩
  · refine ⟨fun m σ H'' => H'' = H' ∧ ∃ low high x, σ = [some (.int n), some (.int s), some (.int low), some (.int high), x] ∧ -1 ≤ low ∧ low < high ∧ high ≤ 2 * n ∧ Rz s low < n ∧ n ≤ Rz s high ∧ m = (high - low).toNat,
      ⟨_, rfl, low, high, x, rfl, l1, l2, l4, l5, by omega, rfl⟩, ?_⟩
    rintro m σ H'' ⟨rfl, low, high, x, rfl, l1, l2, l4, l5, l6, rfl⟩
    walk_at "rd"
    refine ite2 (fun hlt => ?_) (fun hge => ?_)
    · refine ⟨fun σ' H' => H' = H'' ∧ ∃ low' high' x', σ' = [some (.int n), some (.int s), some (.int low'), some (.int high'), x'] ∧ -1 ≤ low' ∧ low' < high' ∧ high' ≤ 2 * n ∧ Rz s low' < n ∧ n ≤ Rz s high' ∧ high' - low' < high - low,
        fun σ' H' ⟨e, low', high', x', e1, e2, e3, e5, e6, e7, e8⟩ => ⟨_, ?_, e, low', high', x', e1, e2, e3, e5, e6, e7, rfl⟩, ?_⟩
      · omega
      · unfold CDivB
        refine ⟨by omega, by omega, by omega, by omega, by omega, ?_⟩
        refine ite2 (fun h => ?_) (fun h => ?_)
        · exact ⟨rfl, (low + high) / 2, high, _, rfl, by omega, by omega, by omega, h, l6, by omega⟩
        · exact ⟨rfl, low, (low + high) / 2, _, rfl, by omega, by omega, by omega, l5, by omega, by omega⟩
    · have e : rho n s = high := rho_eq h1 h3 (by omega) l6 (by rw [show high - 1 = low by omega]; exact l5)
      rw [e] at q
      exact q _ eH
/-! ### draws -/
def Reel (H : Hp) (r : Addr) (m : Int) : Prop := ∃ a b c : Int, H r = some (.lst [.int a, .int b, .int c]) ∧ 0 ≤ a ∧ 0 ≤ b ∧ b ≤ 10 ^ 60 ∧ 0 ≤ c ∧ c ≤ m
theorem Reel.keep {H H' : Hp} {r : Addr} {m : Int} (h : Reel H r m) (k : ∀ o, H r = some o → H' r = some o) : Reel H' r m := by
  obtain ⟨a, b, c, e, q⟩ := h
  exact ⟨a, b, c, k _ e, q⟩
theorem Reel.ex {H H' : Hp} {r : Addr} {m : Int} (h : Reel H r m) (e : Ex H H') : Reel H' r m := h.keep fun o q => e r o q
theorem Reel.ne {H : Hp} {r p : Addr} {m : Int} (h : Reel H r m) (hp : H p = none) : p ≠ r := by
  obtain ⟨a, b, c, e, q⟩ := h
  exact (ne_of_none e hp).symm
theorem Reel.up {H : Hp} {r : Addr} {m m' : Int} (h : Reel H r m) (l : m ≤ m') : Reel H r m' := by
  obtain ⟨a, b, c, e, q1, q2, q3, q4, q5⟩ := h
  exact ⟨a, b, c, e, q1, q2, q3, q4, by omega⟩
theorem mo_none {H H' : Hp} {r p : Addr} {m : Int} (o : Mo r H H') (h : Reel H' r m) (hp : H' p = none) : H p = none := by
  cases q : H p with
  | none => rfl
  | some u => rw [o p u (h.ne hp) q] at hp; cases hp
def sp_L_wound (K : PySem.W.Frag) : Sp := sp2 fun x y H Q _ => ∃ (a : Addr) (ns : List Int) (k : Nat), x = .ref a ∧ y = .int k ∧ SqL K H a (ns.map V.int) ∧ ns.length ≤ 63 ∧ k ≤ 63 ∧ ∀ r H', H r = none → Ex H H' → Reel H' r 0 → Q (.ref r) H'
theorem sc_L_wound : FnScope ["_law_script", "_law_k", "_law_cell"] ["_law_script", "_law_k"] (defScope s_L_wound) := ⟨rfl, rfl, rfl, by decide +kernel, rfl, by decide +kernel, by decide +kernel⟩
theorem ok_L_wound (T : Txt P w K mg base) : GOk P w K mg base (L2.CX P w) 1 T.a_L_wound T.fd_L_wound ["_law_script", "_law_k"] (sp_L_wound K) := by
  refine FunD.gok T.F_L_wound sc_L_wound (fun vs H Q E h => ar2 h) (fun cdv A fr s H vs Q E hr hc h => ⟨_, PSs.nox (pss_cons (ps_set (i := 2) sc_L_wound.nd rfl (.inl rfl) pe_int) (pss_cons (ps_if (pt_cmpR op_lt (pv 1) (pe_callB call_len_seq (by rfl) T.n_len (by decide +kernel) (pa_cons (pv 0) pa_nil)) (nomark _)) (pss_one (ps_set (i := 2) sc_L_wound.nd rfl (.inl rfl) (pe_ix ix_list (pv 0) (pv 1) (fun _ _ => rfl)))) pss_nil) (pss_one (ps_ret (pe_lst (pa_cons (pe_callB (call_max2 rfl) (by rfl) T.n_max (by decide +kernel) (pa_cons pe_int (pa_cons (pe_op op_sub (pv 2) (pe_op op_powC pe_int pe_int)) pa_nil))) (pa_cons (pe_op op_add (pe_op op_add (pe_op op_mulB (pe_op op_mod (pe_callTy call_intI (by rfl) T.n_int (by decide +kernel) (pa_cons (pv 2) pa_nil)) (pe_op op_add (pe_op op_powC pe_int pe_int) pe_int)) pe_int) (pe_op op_mulB pe_int (pv 1))) pe_int) (pa_cons pe_int pa_nil)))))))), ?_⟩)
  obtain ⟨_, _, rfl, a, ns, k, rfl, rfl, hS, hl, hk, q⟩ := h
  walk_at "rd"
  refine ⟨_, .inl hS, ?_⟩
  rw [List.length_map]
  refine ite2 (fun hlt => ?_) (fun _ => ?_)
  · have hlt' : k < ns.length := by omega
    refine ⟨_, hS, .int ns[k], atI_nat (by rw [List.getElem?_map, List.getElem?_eq_getElem hlt']; rfl), ns[k], rfl, ns[k], rfl, by walk_at "ar", by walk_at "ar", fun p hp => q p _ hp (exn hp) ⟨_, _, _, upd_same, ?_, ?_, ?_, ?_, ?_⟩⟩
    · split <;> omega
    all_goals omega
  · refine ⟨by walk_at "ar", by walk_at "ar", fun p hp => q p _ hp (exn hp) ⟨_, _, _, upd_same, ?_, ?_, ?_, ?_, ?_⟩⟩
    all_goals omega
def sp_L_spin (K : PySem.W.Frag) : Sp := sp2 fun x y H Q _ => ∃ (r : Addr) (n m : Int), x = .ref r ∧ y = .int n ∧ Reel H r m ∧ m ≤ 10 ^ 60 ∧ 1 ≤ n ∧ n ≤ 10 ^ 100 ∧ ∀ z H', 0 ≤ z → z < n → Mo r H H' → Reel H' r (m + 1) → Q (.int z) H'
theorem sc_L_spin : FnScope ["_law_reel", "_law_many", "_law_drawn", "_law_mixed"] ["_law_reel", "_law_many"] (defScope s_L_spin) := ⟨rfl, rfl, rfl, by decide +kernel, rfl, by decide +kernel, by decide +kernel⟩
theorem ok_L_spin (T : Txt P w K mg base) : GOk P w K mg base (L2.CX P w) 1 T.a_L_spin T.fd_L_spin ["_law_reel", "_law_many"] (sp_L_spin K) := by
  refine FunD.gok T.F_L_spin sc_L_spin (fun vs H Q E h => ar2 h) (fun cdv A fr s H vs Q E hr hc h => ⟨_, PSs.nox (pss_cons (ps_if (pt_cmpR op_gt (pe_ix ix_listT (pv 0) pe_int (fun _ _ => rfl)) pe_int (nomark _)) (pss_cons (ps_set (i := 2) sc_L_spin.nd rfl (.inl rfl) (pe_op op_mod (pe_callTy call_intI (by rfl) T.n_int (by decide +kernel) (pa_cons (pe_ix ix_listT (pv 0) pe_int (fun _ _ => rfl)) pa_nil)) (pv 1))) (pss_cons (ps_asg (pe_op op_divB (pe_ix ix_listT (pv 0) pe_int (fun _ _ => rfl)) (pv 1)) (pg_sub (pv 0) pe_int set_list)) (pss_one (ps_ret (pv 2))))) pss_nil) (pss_cons (ps_asg (pe_op op_add (pe_ix ix_listT (pv 0) pe_int (fun _ _ => rfl)) pe_int) (pg_sub (pv 0) pe_int set_list)) (pss_cons (ps_set (i := 3) sc_L_spin.nd rfl (.inl rfl) (pe_op op_mod (pe_callTy call_intI (by rfl) T.n_int (by decide +kernel) (pa_cons (pe_op op_powB (pe_op op_add (pe_ix ix_listT (pv 0) pe_int (fun _ _ => rfl)) (pe_op op_mulB pe_int (pe_ix ix_listT (pv 0) pe_int (fun _ _ => rfl)))) pe_int) pa_nil)) (pe_op op_add (pe_op op_powC pe_int pe_int) pe_int))) (pss_cons (ps_set (i := 3) sc_L_spin.nd rfl (.inl rfl) (pe_op op_mod (pe_callTy call_intI (by rfl) T.n_int (by decide +kernel) (pa_cons (pe_op op_powB (pe_op op_add (pv 3) (pe_op op_mulB pe_int (pe_ix ix_listT (pv 0) pe_int (fun _ _ => rfl)))) pe_int) pa_nil)) (pe_op op_add (pe_op op_powC pe_int pe_int) pe_int))) (pss_one (ps_ret (pe_op op_mod (pe_callTy call_intI (by rfl) T.n_int (by decide +kernel) (pa_cons (pe_op op_divB (pv 3) pe_int) pa_nil)) (pv 1)))))))), ?_⟩)
  obtain ⟨_, _, rfl, r, n, m, rfl, rfl, ⟨a, b, c, hr0, ha, hb, hb2, hc0, hcm⟩, hm, hn, hn2, q⟩ := h
  walk_at "rd"
  simp only [hr0]
  walk_at "rd"
  have hB := big_200
  refine ite2 (fun h => ?_) (fun h => ?_)
  · refine ⟨by omega, by unfold CDivB; omega, q _ _ (Int.emod_nonneg _ (by omega)) (Int.emod_lt_of_pos _ (by omega)) Mo.upd ⟨_, _, _, upd_same, Int.ediv_nonneg ha (by omega), hb, hb2, hc0, by omega⟩⟩
  · refine ⟨by walk_at "ar", by walk_at "ar", by walk_at "ar", ?_⟩
    generalize (b + 86028121 * (c + 1)) ^ 3 = z1
    refine ⟨by walk_at "ar", ?_⟩
    generalize (z1 % 1000000000000000000000000000000000000000063 + 67867967 * (c + 1)) ^ 3 = z2
    exact ⟨by walk_at "ar", by omega, q _ _ (Int.emod_nonneg _ (by omega)) (Int.emod_lt_of_pos _ (by omega)) Mo.upd ⟨_, _, _, upd_same, ha, hb, hb2, by omega, by omega⟩⟩
def chz (s r : Int) : Int := if r < 0 then 0 else (R s.toNat r.toNat : Nat)
theorem chz_R {s r : Nat} : chz s r = (R s r : Nat) := by
  unfold chz
  rw [if_neg (by omega)]
  rfl
theorem choose_turn {s r i : Nat} (h : i < s + r) : ((R i (s + r - i) : Nat) : Int) * ((s : Int) + (r : Int) - (i : Int)) / ((i : Int) + 1) = ((R (i + 1) (s + r - (i + 1)) : Nat) : Int) := by
  have h2 := R_turn h
  have e : ((R i (s + r - i) : Nat) : Int) * ((s : Int) + (r : Int) - (i : Int)) = ((R (i + 1) (s + r - (i + 1)) : Nat) : Int) * ((i : Int) + 1) := by
    have e1 : (s : Int) + (r : Int) - (i : Int) = ((s + r - i : Nat) : Int) := by omega
    rw [e1, show ((i : Int) + 1) = ((i + 1 : Nat) : Int) by omega, ← Int.natCast_mul, ← Int.natCast_mul, h2]
  rw [e]
  exact Int.mul_ediv_cancel _ (by omega)
def sp_L_choose (K : PySem.W.Frag) : Sp := sp2 fun a b H Q _ => ∃ (s r : Int), a = .int s ∧ b = .int r ∧ 0 ≤ s ∧ s ≤ 101 ∧ -1 ≤ r ∧ r ≤ 2 ^ 110 ∧ Q (.int (chz s r)) H
theorem sc_L_choose : FnScope ["_law_slots", "_law_rounds", "_law_found", "_law_turn"] ["_law_slots", "_law_rounds"] (defScope s_L_choose) := ⟨rfl, rfl, rfl, by decide +kernel, rfl, by decide +kernel, by decide +kernel⟩
theorem ok_L_choose (T : Txt P w K mg base) : GOk P w K mg base (L2.CX P w) 1 T.a_L_choose T.fd_L_choose ["_law_slots", "_law_rounds"] (sp_L_choose K) := by
  refine FunD.gok T.F_L_choose sc_L_choose (fun vs H Q E h => ar2 h) (fun cdv A fr s H vs Q E hr hc h => ⟨_, PSs.nox (pss_cons (ps_set (i := 2) sc_L_choose.nd rfl (.inl rfl) pe_int) (pss_cons (ps_for PassesOwn.never rfl (pi_range1 (by rfl) T.n_range (pa_cons (pe_callB (call_min2 rfl) (by rfl) T.n_min (by decide +kernel) (pa_cons (pv 0) (pa_cons (pe_callB (call_max2 rfl) (by rfl) T.n_max (by decide +kernel) (pa_cons (pv 1) (pa_cons pe_int pa_nil))) pa_nil))) pa_nil)) (pg_name (i := 3) sc_L_choose.nd rfl (.inl rfl)) (pss_one (ps_set (i := 2) sc_L_choose.nd rfl (.inl rfl) (pe_op op_divB (pe_op op_mulB (pv 2) (pe_op op_sub (pe_op op_add (pv 0) (pv 1)) (pv 3))) (pe_op op_add (pv 3) pe_int))))) (pss_one (ps_ret (pe_ifExp (pt_cmpR op_ge (pv 1) pe_int (nomark _)) (pv 2) pe_int))))), ?_⟩)
  obtain ⟨_, _, rfl, s, r, rfl, rfl, h1, h2, h3, h4, q⟩ := h
  walk_at "rd"
  obtain ⟨S, rfl⟩ := Int.eq_ofNat_of_zero_le h1
  obtain ⟨N, hN⟩ : ∃ N : Nat, N = r.toNat := ⟨_, rfl⟩
  apply for_rng1 (min S N) (Pv := fun i σ H' => H' = H ∧ ∃ x, σ = [some (.int S), some (.int r), some (.int (R i (S + N - i) : Nat)), x])
  · intro R q
    walk_at "rd"
    exact q
  · split <;> split <;> omega
  · split <;> split <;> omega
  · exact ⟨rfl, none, by rw [R_0]; rfl⟩
  · rintro σ H' ⟨rfl, x, rfl⟩
    walk_at "rd"
    refine ite2 (fun h => ?_) (fun h => ?_)
    · have e : r = (N : Int) := by omega
      have e2 : chz (S : Int) r = (R S N : Nat) := by rw [e]; exact chz_R
      rw [e2] at q
      have e3 : R (min S N) (S + N - min S N) = R S N := by
        rcases Nat.le_total S N with hl | hl
        · rw [Nat.min_eq_left hl, show S + N - S = N by omega]
        · rw [Nat.min_eq_right hl, show S + N - N = S by omega, R_comm]
      rw [e3]
      exact q
    · have e2 : chz (S : Int) r = 0 := by unfold chz; rw [if_pos (by omega)]
      rw [e2] at q
      exact q
  · rintro i σ H' hi ⟨rfl, x, rfl⟩
    walk_at "rd"
    have hB := big_200
    have b1 : ((R i (S + N - i) : Nat) : Int) < BIG := by
      have h := R_le i (S + N - i)
      have h5 : (((S + N - i + 1) ^ i : Nat) : Int) < BIG := big_pow (a := 113) (b := 102) (by decide) (by omega) (by omega)
      omega
    have e : r = (N : Int) := by omega
    subst e
    refine ⟨by walk_at "ar", by walk_at "ar", ?_⟩
    exact choose_turn (by omega)
def sp_L_great (K : PySem.W.Frag) : Sp := sp1 fun x H Q _ => ∃ (r : Addr) (m : Int), x = .ref r ∧ Reel H r m ∧ m ≤ 10 ^ 50 ∧ ∀ (n s : Int) p H', 1 ≤ n → n ≤ 10 ^ 30 → 1 ≤ s → s ≤ 100 → Mo r H H' → Reel H' r (m + 8) → H p = none → p ≠ r → H' p = some (.tup [.int n, .int s]) → Q (.ref p) H'
theorem sc_L_great : FnScope ["_law_reel", "_law_slots", "_law_edge", "_law_some"] ["_law_reel"] (defScope s_L_great) := ⟨rfl, rfl, rfl, by decide +kernel, rfl, by decide +kernel, by decide +kernel⟩
theorem ok_L_great (T : Txt P w K mg base) : GOk P w K mg base (L2.CX P w) 2 T.a_L_great T.fd_L_great ["_law_reel"] (sp_L_great K) := by
  refine FunD.gok T.F_L_great sc_L_great (fun vs H Q E h => ar1 h) (fun cdv A fr s H vs Q E hr hc h => ⟨_, PSs.nox (pss_cons (ps_set (i := 1) sc_L_great.nd rfl (.inl rfl) (pe_op op_add pe_int (pe_callG (ok_L_spin T) hr hc (by rfl) T.g_L_spin T.F_L_spin.kp T.b_L_spin .nil passL (pa_cons (pv 0) (pa_cons (pe_ix ix_listT (pe_lst (pa_cons pe_int (pa_cons pe_int pa_nil))) (pe_callG (ok_L_spin T) hr hc (by rfl) T.g_L_spin T.F_L_spin.kp T.b_L_spin .nil passL (pa_cons (pv 0) (pa_cons pe_int pa_nil))) (fun _ _ => rfl)) pa_nil))))) (pss_cons (ps_set (i := 2) sc_L_great.nd rfl (.inl rfl) (pe_callB (call_min2 rfl) (by rfl) T.n_min (by decide +kernel) (pa_cons (pe_op op_sub (pe_op op_powC pe_int pe_int) pe_int) (pa_cons (pe_callG (ok_L_choose T) hr hc (by rfl) T.g_L_choose T.F_L_choose.kp T.b_L_choose .nil passL (pa_cons (pv 1) (pa_cons (pe_callG (ok_L_spin T) hr hc (by rfl) T.g_L_spin T.F_L_spin.kp T.b_L_spin .nil passL (pa_cons (pv 0) (pa_cons (pe_ix ix_listT (pe_lst (pa_cons pe_int (pa_cons pe_int pa_nil))) (pe_callG (ok_L_spin T) hr hc (by rfl) T.g_L_spin T.F_L_spin.kp T.b_L_spin .nil passL (pa_cons (pv 0) (pa_cons pe_int pa_nil))) (fun _ _ => rfl)) pa_nil))) pa_nil))) pa_nil)))) (pss_cons (ps_set (i := 3) sc_L_great.nd rfl (.inl rfl) (pe_lst (pa_cons (pe_op op_add pe_int (pe_callG (ok_L_spin T) hr hc (by rfl) T.g_L_spin T.F_L_spin.kp T.b_L_spin .nil passL (pa_cons (pv 0) (pa_cons (pe_op op_powC pe_int pe_int) pa_nil)))) (pa_cons (pe_op op_add pe_int (pe_callG (ok_L_spin T) hr hc (by rfl) T.g_L_spin T.F_L_spin.kp T.b_L_spin .nil passL (pa_cons (pv 0) (pa_cons (pe_op op_powC pe_int pe_int) pa_nil)))) (pa_cons (pe_callB (call_max2 rfl) (by rfl) T.n_max (by decide +kernel) (pa_cons pe_int (pa_cons (pe_op op_add (pe_op op_sub (pv 2) pe_int) (pe_callG (ok_L_spin T) hr hc (by rfl) T.g_L_spin T.F_L_spin.kp T.b_L_spin .nil passL (pa_cons (pv 0) (pa_cons pe_int pa_nil)))) pa_nil))) pa_nil))))) (pss_one (ps_ret (pe_tup (pa_cons (pe_ix ix_listT (pv 3) (pe_callG (ok_L_spin T) hr hc (by rfl) T.g_L_spin T.F_L_spin.kp T.b_L_spin .nil passL (pa_cons (pv 0) (pa_cons pe_int pa_nil))) (fun _ _ => rfl)) (pa_cons (pv 1) pa_nil)))))))), ?_⟩)
  obtain ⟨_, rfl, r, m, rfl, hR, hm, q⟩ := h
  walk_at "rd"
  unfold sp_L_choose sp_L_spin
  walk_at "rd"
  intro p hp
  have np := hR.ne hp
  refine ⟨m, hR.ex (exn hp), by omega, fun z H1 z0 z1 o1 R1 => ?_⟩
  obtain ⟨x, hx, x1, x2⟩ : ∃ x : Int, atI [V.int 4, V.int 100] z = some (.int x) ∧ 1 ≤ x ∧ x ≤ 100 := by
    rcases (by omega : z = 0 ∨ z = 1) with rfl | rfl
    · exact ⟨4, atI_0, by decide, by decide⟩
    · exact ⟨100, atI_1, by decide, by decide⟩
  refine ⟨_, o1 p _ np upd_same, _, hx, _, rfl, m + 1, R1, by omega, by omega, by omega, fun s0 H2 s1 s2 o2 R2 p2 hp2 => ?_⟩
  have np2 := R2.ne hp2
  refine ⟨m + 1 + 1, R2.ex (exn hp2), by omega, fun z H3 z0 z1 o3 R3 => ?_⟩
  obtain ⟨y, hy, y1, y2⟩ : ∃ x : Int, atI [V.int 9, V.int 60] z = some (.int x) ∧ 1 ≤ x ∧ x ≤ 100 := by
    rcases (by omega : z = 0 ∨ z = 1) with rfl | rfl
    · exact ⟨9, atI_0, by decide, by decide⟩
    · exact ⟨60, atI_1, by decide, by decide⟩
  refine ⟨_, o3 p2 _ np2 upd_same, _, hy, _, rfl, m + 1 + 1 + 1, R3, by omega, by omega, by omega, fun r0 H4 r1 r2 o4 R4 => ?_⟩
  have c0 : 0 ≤ chz (1 + s0) r0 := by unfold chz; split <;> omega
  generalize chz (1 + s0) r0 = edge at *
  refine ⟨by omega, by omega, by omega, by omega, m + 1 + 1 + 1 + 1, R4, by omega, fun a H5 a1 a2 o5 R5 => ?_⟩
  refine ⟨m + 1 + 1 + 1 + 1 + 1, R5, by omega, fun b H6 b1 b2 o6 R6 => ?_⟩
  refine ⟨m + 1 + 1 + 1 + 1 + 1 + 1, R6, by omega, fun c H7 c1 c2 o7 R7 p3 hp3 => ?_⟩
  have np3 := R7.ne hp3
  refine ⟨m + 1 + 1 + 1 + 1 + 1 + 1 + 1, R7.ex (exn hp3), by omega, fun d H8 d1 d2 o8 R8 => ?_⟩
  refine ⟨_, o8 p3 _ np3 upd_same, ?_⟩
  generalize hu : (if (1 : Int) < _ then _ else _) = u
  have u1 : 1 ≤ u ∧ u ≤ 10 ^ 30 := by
    rw [← hu]
    split <;> split at * <;> omega
  obtain ⟨n, hn, n1, n2⟩ : ∃ n : Int, atI [V.int (1 + a), V.int (1 + b), V.int u] d = some (.int n) ∧ 1 ≤ n ∧ n ≤ 10 ^ 30 := by
    rcases (by omega : d = 0 ∨ d = 1 ∨ d = 2) with rfl | rfl | rfl
    · exact ⟨_, atI_0, by omega, by omega⟩
    · exact ⟨_, atI_1, by omega, by omega⟩
    · exact ⟨_, atI_2, u1.1, u1.2⟩
  refine ⟨_, hn, fun p4 hp4 => ?_⟩
  have np4 := R8.ne hp4
  have o : Mo r H (upd H8 p4 (.tup [.int n, .int (1 + s0)])) := (((Ex.to_mo (exn hp) o1).trans o2).trans (Ex.to_mo (exn hp2) o3)).trans (((o4.trans o5).trans o6).trans (o7.trans ((Ex.to_mo (exn hp3) o8).trans (Mo.ex (exn hp4)))))
  refine q n (1 + s0) p4 _ n1 n2 (by omega) (by omega) o ((R8.ex (exn hp4)).up (by omega)) ?_ np4 upd_same
  cases e : H p4 with
  | none => rfl
  | some w =>
    have e2 : Mo r H H8 := (((Ex.to_mo (exn hp) o1).trans o2).trans (Ex.to_mo (exn hp2) o3)).trans (((o4.trans o5).trans o6).trans (o7.trans (Ex.to_mo (exn hp3) o8)))
    rw [e2 p4 w np4 e] at hp4
    cases hp4
def sp_least_rounds (K : PySem.W.Frag) : Sp := sp2 fun a b H Q _ => ∃ (n s : Int), a = .int n ∧ b = .int s ∧ 1 ≤ n ∧ n ≤ 10 ^ 30 ∧ 1 ≤ s ∧ s ≤ 100 ∧ ∀ H', Ex H H' → Q (.int (rho n s)) H'
theorem sc_least_rounds : FnScope ["length", "slots"] ["length", "slots"] (defScope s_least_rounds) := ⟨rfl, rfl, rfl, by decide +kernel, rfl, by decide +kernel, by decide +kernel⟩
theorem ok_least_rounds (T : Txt P w K mg base) : GOk P w K mg base (L2.CX P w) 5 T.a_least_rounds T.fd_least_rounds ["length", "slots"] (sp_least_rounds K) := by
  refine FunD.gok T.F_least_rounds sc_least_rounds (fun vs H Q E h => ar2 h) (fun cdv A fr s H vs Q E hr hc h => ⟨_, PSs.nox (pss_cons (ps_expr (pe_callG (ok_require_task T) hr hc (by rfl) T.g_require_task T.F_require_task.kp T.b_require_task .nil passL (pa_cons (pv 0) (pa_cons (pv 1) pa_nil)))) (pss_one (ps_ret (pe_callG (ok_rounds_of T) (hr.mono (by decide)) hc (by rfl) T.g_rounds_of T.F_rounds_of.kp T.b_rounds_of .nil passL (pa_cons (pv 0) (pa_cons (pv 1) pa_nil)))))), ?_⟩)
  obtain ⟨_, _, rfl, n, s, rfl, rfl, h1, h2, h3, h4, q⟩ := h
  walk_at "rd"
  unfold sp_require_task sp_rounds_of
  walk_at "rd"
  exact ⟨h1, h2, h3, h4, h1, h2, h3, by omega, q⟩
def lsV (n r : Int) : V := match (List.range 100).find? (fun (i : Nat) => decide (n ≤ Rz ((i : Int) + 1) r)) with
  | some i => .int ((i : Int) + 1)
  | none => .non
def sp_least_slots (K : PySem.W.Frag) : Sp := sp2 fun a b H Q _ => ∃ (n r : Int), a = .int n ∧ b = .int r ∧ 1 ≤ n ∧ n ≤ 10 ^ 30 ∧ 0 ≤ r ∧ r ≤ 1000 ∧ Q (lsV n r) H
theorem sc_least_slots : FnScope ["length", "rounds", "slots"] ["length", "rounds"] (defScope s_least_slots) := ⟨rfl, rfl, rfl, by decide +kernel, rfl, by decide +kernel, by decide +kernel⟩
theorem ok_least_slots (T : Txt P w K mg base) : GOk P w K mg base (L2.CX P w) 4 T.a_least_slots T.fd_least_slots ["length", "rounds"] (sp_least_slots K) := by
  refine FunD.gok T.F_least_slots sc_least_slots (fun vs H Q E h => ar2 h) (fun cdv A fr s H vs Q E hr hc h => ⟨_, PSs.nox (pss_cons (ps_expr (pe_callG (ok_require_length T) hr hc (by rfl) T.g_require_length T.F_require_length.kp T.b_require_length .nil passL (pa_cons (pv 0) pa_nil))) (pss_cons (ps_expr (pe_callG (ok_require_rounds T) hr hc (by rfl) T.g_require_rounds T.F_require_rounds.kp T.b_require_rounds .nil passL (pa_cons (pv 1) pa_nil))) (pss_cons (ps_for PassesOwn.never rfl (pi_range2 (by rfl) T.n_range (pa_cons pe_int (pa_cons (pe_op op_add (pe_glob (v := .int 100) (by rfl) T.c_MOST_SLOTS ⟨_, rfl⟩) pe_int) pa_nil))) (pg_name (i := 2) sc_least_slots.nd rfl (.inl rfl)) (pss_one (ps_if (pt_cmpR op_ge (pe_callG (ok_reach_of T) (hr.mono (by decide)) hc (by rfl) T.g_reach_of T.F_reach_of.kp T.b_reach_of .nil passL (pa_cons (pv 2) (pa_cons (pv 1) pa_nil))) (pv 0) (nomark _)) (pss_one (ps_ret (pv 2))) pss_nil))) (pss_one (ps_ret pe_non))))), ?_⟩)
  obtain ⟨_, _, rfl, n, r, rfl, rfl, h1, h2, h3, h4, q⟩ := h
  walk_at "rd"
  unfold sp_require_length sp_require_rounds
  walk_at "rd"
  refine ⟨h1, h2, h3, h4, ?_⟩
  refine for_rng2 (lo := 1) (hi := 101) 100 (fun R q => by walk_at "rd"; exact q) (by omega) (by omega)
    (fun i σ H' => H' = H ∧ (∃ x, σ = [some (.int n), some (.int r), x]) ∧ ∀ k, k < i → Rz ((k : Int) + 1) r < n) ⟨rfl, ⟨_, rfl⟩, fun k hk => by omega⟩ ?_ ?_
  · rintro σ H' ⟨rfl, ⟨x, rfl⟩, hk⟩
    walk_at "rd"
    have e : lsV n r = .non := by
      unfold lsV
      rw [List.find?_eq_none.mpr fun i hi => by
        have := hk i (List.mem_range.mp hi)
        simp only [decide_eq_true_eq]
        omega]
    rw [e] at q
    exact q
  · rintro i σ H' hi ⟨rfl, ⟨x, rfl⟩, hk⟩
    walk_at "rd"
    unfold sp_reach_of
    walk_at "rd"
    refine ⟨by omega, by omega, by omega, by omega, ite2 (fun hge => ?_) (fun hlt => ?_)⟩
    · have e : lsV n r = .int (1 + (i : Int)) := by
        unfold lsV
        have hf : (List.range 100).find? (fun (i : Nat) => decide (n ≤ Rz ((i : Int) + 1) r)) = some i := by
          rw [List.find?_range_eq_some]
          refine ⟨by rw [decide_eq_true_eq, Int.add_comm]; exact hge, List.mem_range.mpr hi, fun j hj => ?_⟩
          have := hk j hj
          simp only [Bool.not_eq_true', decide_eq_false_iff_not]
          omega
        rw [hf, Int.add_comm]
      rw [e] at q
      exact q
    · intro k hkk
      by_cases h : k = i
      · subst h; rw [Int.add_comm]; omega
      · exact hk k (by omega)
def sp_L_small_right (K : PySem.W.Frag) : Sp := sp2 fun a b H Q _ => a = .int 60 ∧ b = .int 8 ∧ ∀ H', Ex H H' → Q (.bl true) H'
theorem sc_L_small_right : FnScope ["_law_most", "_law_slots", "_law_s", "_law_r", "_law_n"] ["_law_most", "_law_slots"] (defScope s_L_small_right) := ⟨rfl, rfl, rfl, by decide +kernel, rfl, by decide +kernel, by decide +kernel⟩
theorem ok_L_small_right (T : Txt P w K mg base) : GOk P w K mg base (L2.CX P w) 6 T.a_L_small_right T.fd_L_small_right ["_law_most", "_law_slots"] (sp_L_small_right K) := by
  refine FunD.gok T.F_L_small_right sc_L_small_right (fun vs H Q E h => ar2 h) (fun cdv A fr s H vs Q E hr hc h => ⟨_, PSs.nox (pss_cons (ps_for PassesOwn.never rfl (pi_range2 (by rfl) T.n_range (pa_cons pe_int (pa_cons (pe_op op_add (pv 1) pe_int) pa_nil))) (pg_name (i := 2) sc_L_small_right.nd rfl (.inl rfl)) (pss_cons (ps_set (i := 3) sc_L_small_right.nd rfl (.inl rfl) pe_int) (pss_one (ps_for PassesOwn.never rfl (pi_range2 (by rfl) T.n_range (pa_cons pe_int (pa_cons (pe_op op_add (pv 0) pe_int) pa_nil))) (pg_name (i := 4) sc_L_small_right.nd rfl (.inl rfl)) (pss_cons (ps_while PassesOwn.never (pt_cmpR op_lt (pe_callG (ok_L_choose T) (hr.mono (by decide)) hc (by rfl) T.g_L_choose T.F_L_choose.kp T.b_L_choose .nil passL (pa_cons (pv 2) (pa_cons (pv 3) pa_nil))) (pv 4) (nomark _)) (pss_one (ps_set (i := 3) sc_L_small_right.nd rfl (.inl rfl) (pe_op op_add (pv 3) pe_int)))) (pss_one (ps_if (pt_cmpR op_ne (pe_callB call_repr_I (by rfl) T.n_repr (by decide +kernel) (pa_cons (pe_callG (ok_least_rounds T) hr hc (by rfl) T.g_least_rounds T.F_least_rounds.kp T.b_least_rounds .nil passL (pa_cons (pv 4) (pa_cons (pv 2) pa_nil))) pa_nil)) (pe_callB call_repr_I (by rfl) T.n_repr (by decide +kernel) (pa_cons (pv 3) pa_nil)) (nomark _)) (pss_one (ps_ret pe_bl)) pss_nil))))))) (pss_one (ps_ret pe_bl))), ?_⟩)
  obtain ⟨_, _, rfl, rfl, rfl, q⟩ := h
  walk_at "rd"
  refine for_rng2 (lo := 1) (hi := 9) 8 (fun R q => by walk_at "rd"; exact q) (by omega) (by omega)
    (fun i σ H' => Ex H H' ∧ ∃ x y z, σ = [some (.int 60), some (.int 8), x, y, z]) ⟨Evl.Ex.refl _, _, _, _, rfl⟩ ?_ ?_
  · rintro σ H' ⟨e, x, y, z, rfl⟩
    walk_at "rd"
    exact q _ e
  · rintro i σ H1 hi ⟨e1, x, y, z, rfl⟩
    walk_at "rd"
    refine for_rng2 (lo := 1) (hi := 61) 60 (fun R q => by walk_at "rd"; exact q) (by omega) (by omega)
      (fun j σ H' => Ex H H' ∧ ∃ z r, σ = [some (.int 60), some (.int 8), some (.int (1 + (i : Int))), some (.int r), z] ∧ 0 ≤ r ∧ r ≤ j ∧ Rz (1 + (i : Int)) (r - 1) < j + 1) ⟨e1, _, 0, rfl, by omega, by omega, by rw [show (0 : Int) - 1 = -1 by rfl, Rz_neg (by omega)]; omega⟩ ?_ ?_
    · rintro σ H2 ⟨e2, z, r, rfl, _⟩
      walk_at "rd"
      exact e2
    · rintro j σ H2 hj ⟨e2, z, r, rfl, r0, r1, r2⟩
      walk_at "rd"
      refine ⟨fun m σ H' => H' = H2 ∧ ∃ r, σ = [some (.int 60), some (.int 8), some (.int (1 + (i : Int))), some (.int r), some (.int (1 + (j : Int)))] ∧ 0 ≤ r ∧ r ≤ j ∧ Rz (1 + (i : Int)) (r - 1) < j + 1 ∧ m = ((j : Int) - r).toNat,
        ⟨_, rfl, r, rfl, r0, r1, r2, rfl⟩, ?_⟩
      rintro m σ H' ⟨rfl, r, rfl, r0, r1, r2, rfl⟩
      walk_at "rd"
      unfold sp_L_choose
      walk_at "rd"
      refine ⟨by omega, by omega, by omega, by omega, ?_⟩
      have hg := Rz_gt (s := 1 + (i : Int)) (r := r) (by omega) r0
      have hz : chz (1 + (i : Int)) r = Rz (1 + (i : Int)) r := by rw [Rz_of (by omega) r0]; unfold chz; rw [if_neg (by omega)]
      rw [hz]
      refine ite2 (fun hlt => ?_) (fun hge => ?_)
      · refine ⟨fun σ' H'' => H'' = H' ∧ ∃ r', σ' = [some (.int 60), some (.int 8), some (.int (1 + (i : Int))), some (.int r'), some (.int (1 + (j : Int)))] ∧ 0 ≤ r' ∧ r' ≤ j ∧ Rz (1 + (i : Int)) (r' - 1) < j + 1 ∧ r < r',
          fun σ' H'' ⟨e, r', e1, e2, e3, e4, e5⟩ => ⟨_, ?_, e, r', e1, e2, e3, e4, rfl⟩, rfl, r + 1, rfl, by omega, by omega, by rw [show r + 1 - 1 = r by omega]; omega, by omega⟩
        omega
      · have e : rho (1 + (j : Int)) (1 + (i : Int)) = r := rho_eq (by omega) (by omega) r0 (by omega) (by omega)
        have hM := med_200
        unfold sp_least_rounds
        walk_at "rd"
        refine ⟨by omega, by omega, by omega, by omega, fun H3 e3 => ?_⟩
        rw [e]
        refine ⟨by omega, by omega, by omega, by omega, iteN rfl ⟨e2.trans e3, r0, by omega, by rw [show ((j + 1 : Nat) : Int) = (j : Int) + 1 by omega]; omega⟩⟩
theorem lsV_dp {n r : Int} {K : PySem.W.Frag} {H : Hp} : ∃ d, Dp K H (lsV n r) d ∧ fine 20 d = true ∧ sz d ≤ 16000000 := by
  unfold lsV
  cases e : (List.range 100).find? (fun (i : Nat) => decide (n ≤ Rz ((i : Int) + 1) r)) with
  | none => exact ⟨_, .non, by simp [fine], by simp [sz]⟩
  | some i =>
    have hi : i < 100 := List.mem_range.mp (List.mem_of_find?_eq_some e)
    have hM := med_200
    refine ⟨_, .int _, ?_, by simp [sz]⟩
    rw [fine, decide_eq_true_eq]
    exact med_log (by omega) (by omega)
def sp_L_right (K : PySem.W.Frag) : Sp := sp1 fun x H Q _ => ∃ (r : Addr) (m : Int), x = .ref r ∧ Reel H r m ∧ m ≤ 10 ^ 40 ∧ ∀ H', Mo r H H' → Reel H' r (m + 11) → Q (.bl true) H'
theorem sc_L_right : FnScope ["_law_reel", "_law_n", "_law_s", "_law_r", "_law_most", "_law_fit", "_law_slots"] ["_law_reel"] (defScope s_L_right) := ⟨rfl, rfl, rfl, by decide +kernel, rfl, by decide +kernel, by decide +kernel⟩
theorem ok_L_right (T : Txt P w K mg base) : GOk P w K mg base (L2.CX P w) 6 T.a_L_right T.fd_L_right ["_law_reel"] (sp_L_right K) := by
  refine FunD.gok T.F_L_right sc_L_right (fun vs H Q E h => ar1 h) (fun cdv A fr s H vs Q E hr hc h => ⟨_, PSs.nox (pss_cons (ps_asg (pe_callG (ok_L_great T) (hr.mono (by decide)) hc (by rfl) T.g_L_great T.F_L_great.kp T.b_L_great .nil passL (pa_cons (pv 0) pa_nil)) (pg_tupT (n := 2) rfl (pgs_cons (pg_name (i := 1) sc_L_right.nd rfl (.inr rfl)) (pgs_cons (pg_name (i := 2) sc_L_right.nd rfl (.inl rfl)) pgs_nil)))) (pss_cons (ps_set (i := 3) sc_L_right.nd rfl (.inl rfl) (pe_callG (ok_least_rounds T) hr hc (by rfl) T.g_least_rounds T.F_least_rounds.kp T.b_least_rounds .nil passL (pa_cons (pv 1) (pa_cons (pv 2) pa_nil)))) (pss_cons (ps_if (PW.pt (pw_or (pt_cmpR op_lt (pv 3) pe_int (nomark _)) (pw_or (pt_cmpR op_lt (pe_callG (ok_L_choose T) (hr.mono (by decide)) hc (by rfl) T.g_L_choose T.F_L_choose.kp T.b_L_choose .nil passL (pa_cons (pv 2) (pa_cons (pv 3) pa_nil))) (pv 1) (nomark _)) (pw_or1 (PW.pt (pw_and (pt_cmpR op_gt (pv 3) pe_int (nomark _)) (pw_and1 (pt_cmpR op_ge (pe_callG (ok_L_choose T) (hr.mono (by decide)) hc (by rfl) T.g_L_choose T.F_L_choose.kp T.b_L_choose .nil passL (pa_cons (pv 2) (pa_cons (pe_op op_sub (pv 3) pe_int) pa_nil))) (pv 1) (nomark _))))))))) (pss_one (ps_ret pe_bl)) pss_nil) (pss_cons (ps_set (i := 4) sc_L_right.nd rfl (.inr rfl) (pe_ix ix_listT (pe_lst (pa_cons (pe_callG (ok_L_spin T) (hr.mono (by decide)) hc (by rfl) T.g_L_spin T.F_L_spin.kp T.b_L_spin .nil passL (pa_cons (pv 0) (pa_cons pe_int pa_nil))) (pa_cons (pe_callG (ok_L_spin T) (hr.mono (by decide)) hc (by rfl) T.g_L_spin T.F_L_spin.kp T.b_L_spin .nil passL (pa_cons (pv 0) (pa_cons pe_int pa_nil))) (pa_cons (pe_callB (call_min2 rfl) (by rfl) T.n_min (by decide +kernel) (pa_cons (pv 3) (pa_cons pe_int pa_nil))) (pa_cons (pe_callB (call_max2 rfl) (by rfl) T.n_max (by decide +kernel) (pa_cons pe_int (pa_cons (pe_op op_sub (pe_callB (call_min2 rfl) (by rfl) T.n_min (by decide +kernel) (pa_cons (pv 3) (pa_cons pe_int pa_nil))) pe_int) pa_nil))) pa_nil))))) (pe_callG (ok_L_spin T) (hr.mono (by decide)) hc (by rfl) T.g_L_spin T.F_L_spin.kp T.b_L_spin .nil passL (pa_cons (pv 0) (pa_cons pe_int pa_nil))) (fun _ _ => rfl))) (pss_cons (ps_setLc (i := 5) (own := [("_law_slots", 6)]) rfl sc_L_right.nd rfl rfl (sw_true rfl rfl rfl (by decide +kernel)) (pi_range2 (by rfl) T.n_range (pa_cons pe_int (pa_cons pe_int pa_nil))) (blkOk_by (N := ["_law_reel", "_law_n", "_law_s", "_law_r", "_law_most", "_law_fit", "_law_slots"]) (sc := defScope s_L_right) (by decide +kernel)) (fun _ _ _ _ _ => (pg_name (i := 6) sc_L_right.nd rfl (Or.inl rfl))) (fun _ _ _ _ _ => (pts_one (pt_cmpR op_ge (pe_callG (ok_L_choose T) (hr.mono (by decide)) hc (by rfl) T.g_L_choose T.F_L_choose.kp T.b_L_choose .nil passL (pa_cons (pv 6) (pa_cons (pv 4) pa_nil))) (pv 1) (nomark _)))) (fun _ _ _ _ _ => (pv 6))) (pss_one (ps_ret (pe_cmpR op_eq (pe_callB (call_repr_D hr hc) (by rfl) T.n_repr (by decide +kernel) (pa_cons (pe_callG (ok_least_slots T) (hr.mono (by decide)) hc (by rfl) T.g_least_slots T.F_least_slots.kp T.b_least_slots .nil passL (pa_cons (pv 1) (pa_cons (pv 4) pa_nil))) pa_nil)) (pe_callB (call_repr_D hr hc) (by rfl) T.n_repr (by decide +kernel) (pa_cons (pe_ifExp (pt_cmpR (op_neF hr) (pv 5) (pe_lst pa_nil) (nomark _)) (pe_ix ix_listT (pv 5) pe_int (fun _ _ => rfl)) pe_non) pa_nil)) (nomark _))))))))), ?_⟩)
  obtain ⟨_, rfl, r, m, rfl, hR, hm, q⟩ := h
  walk_at "rd"
  unfold sp_L_great
  walk_at "rd"
  refine ⟨m, hR, by omega, fun n s p H1 n1 n2 s1 s2 o1 R1 hp np h1 => ?_⟩
  simp only [h1]
  walk_at "rd"
  unfold sp_least_rounds
  walk_at "rd"
  refine ⟨n1, by omega, s1, s2, fun H2 e2 => ?_⟩
  have r0 := rho_nonneg n s
  have rl := rho_lt (n := n) (s := s) n1 s1
  have rr := rho_reach (n := n) (s := s) s1
  refine iteNo (by omega) ?_
  unfold sp_L_choose
  walk_at "rd"
  refine ⟨by omega, by omega, by omega, by omega, ?_⟩
  have hz : ∀ q : Int, 0 ≤ q → chz s q = Rz s q := fun q hq => by rw [Rz_of (by omega) hq]; unfold chz; rw [if_neg (by omega)]
  refine iteNo (by rw [hz _ r0]; omega) ?_
  have hz' : ∀ s q : Int, 0 ≤ s → 0 ≤ q → chz s q = Rz s q := fun s q hs hq => by rw [Rz_of hs hq]; unfold chz; rw [if_neg (by omega)]
  have low : 0 < rho n s → ¬ n ≤ chz s (rho n s - 1) := fun h => by
    rw [hz _ (by omega)]
    have := rho_least (n := n) (s := s) (q := rho n s - 1) n1 s1 (by omega) (by omega)
    omega
  generalize rho n s = ro at *
  refine ite2 (fun h => ⟨by omega, by omega, by omega, by omega, iteNo (low h) ?_⟩) (fun _ => ?_)
  all_goals
    unfold sp_L_spin
    walk_at "rd"
    refine ⟨m + 8, R1.ex e2, by omega, fun a H3 a1 a2 o3 R3 => ⟨m + 8 + 1, R3, by omega, fun b H4 b1 b2 o4 R4 p2 hp2 => ?_⟩⟩
    have np2 := R4.ne hp2
    refine ⟨m + 8 + 1 + 1, R4.ex (exn hp2), by omega, fun z H5 z1 z2 o5 R5 => ⟨_, o5 p2 _ np2 upd_same, ?_⟩⟩
    generalize hu : (if (1000 : Int) < ro then 1000 else ro) = u
    generalize hv : (if 0 < (if (1001 : Int) < ro then 1001 else ro) - 1 then (if (1001 : Int) < ro then 1001 else ro) - 1 else 0) = v
    have u1 : 0 ≤ u ∧ u ≤ 1000 := by rw [← hu]; split <;> omega
    have v1 : 0 ≤ v ∧ v ≤ 1000 := by rw [← hv]; split <;> split at * <;> omega
    obtain ⟨t, ht, t1, t2⟩ : ∃ t : Int, atI [V.int a, V.int b, V.int u, V.int v] z = some (.int t) ∧ 0 ≤ t ∧ t ≤ 1000 := by
      rcases (by omega : z = 0 ∨ z = 1 ∨ z = 2 ∨ z = 3) with rfl | rfl | rfl | rfl
      · exact ⟨_, atI_0, by omega, by omega⟩
      · exact ⟨_, atI_1, by omega, by omega⟩
      · exact ⟨_, atI_2, u1.1, u1.2⟩
      · exact ⟨_, atI_3, v1.1, v1.2⟩
    refine ⟨_, ht, ?_⟩
    have fin : ∀ H6, Ex H5 H6 → ∃ H', True := fun _ _ => ⟨H5, trivial⟩
    refine lc_rng2F (lo := 1) (n := 100) (fun i => decide (n ≤ Rz ((i : Int) + 1) t)) (fun i => .int ((i : Int) + 1)) (fun R q => by walk_at "rd"; exact q) (by omega) (by omega) (fun _ => rfl) ?_ ?_ ?_
    · intro i H6 hi e6 Rr hR
      simp only [wipe]
      walk_at "rd"
      refine ⟨by omega, by omega, by omega, by omega, ?_⟩
      rw [hz' (1 + (i : Int)) t (by omega) t1, Int.add_comm 1 (i : Int)]
      exact hR H6 (Evl.Ex.refl _)
    · intro i H6 hi hf e6 Rr hR
      simp only [wipe]
      walk_at "rd"
      refine hR _ _ (Evl.Ex.refl _) ?_
      rw [Int.add_comm]
      exact .int _
    · intro v6 H6 e6 hv6
      unfold sp_least_slots
      walk_at "rd"
      obtain ⟨d, hd1, hd2, hd3⟩ := lsV_dp (n := n) (r := t) (K := K) (H := H6)
      refine ⟨n1, by omega, t1, t2, d, hd1, hd2, hd3, fun p7 hp7 => ?_⟩
      have ends : Mo r H (upd H6 p7 (.lst [])) := (o1.trans (Mo.ex e2)).trans ((o3.trans o4).trans ((Ex.to_mo (exn hp2) o5).trans ((Mo.ex e6).trans (Mo.ex (exn hp7)))))
      have RE : Reel (upd H6 p7 (.lst [])) r (m + 11) := ((R5.ex e6).ex (exn hp7)).up (by omega)
      have hq := q _ ends RE
      have hM := med_200
      have ff : fineAll 19 (((List.range 100).filter fun (i : Nat) => decide (n ≤ Rz ((i : Int) + 1) t)).map fun (i : Nat) => PyData.int ((i : Int) + 1)) = true := by
        have := fineAll_ints (n := 19) (ns := ((List.range 100).filter fun (i : Nat) => decide (n ≤ Rz ((i : Int) + 1) t)).map fun (i : Nat) => ((i : Int) + 1)) (by
          intro w hw
          obtain ⟨i, hi, rfl⟩ := List.mem_map.mp hw
          have := List.mem_range.mp (List.mem_filter.mp hi).1
          exact med_log (by omega) (by omega))
        rw [List.map_map] at this
        exact this
      refine ⟨_, (hv6.ex (exn hp7)).dp, _, .lst (sq_l upd_same) .nil, by rw [fine]; exact ff, by simp [fine, fineAll], ?_⟩
      have hf := List.head?_filter (p := fun (i : Nat) => decide (n ≤ Rz ((i : Int) + 1) t)) (l := List.range 100)
      cases hv6 with
      | lst sa ha hr =>
      rename_i va xs
      have na : va ≠ p7 := ne_of_none ha hp7
      cases eF : (List.range 100).filter fun (i : Nat) => decide (n ≤ Rz ((i : Int) + 1) t) with
      | nil =>
        rw [eF] at hf
        have e1 : lsV n t = .non := by unfold lsV; rw [← hf] <;> rfl
        rw [e1] at hd1
        cases hd1
        refine iteNo (by simp [PyData.eqv, PyData.eqvAll]) ⟨_, .non, by simp [fine], by simp [sz], ?_⟩
        simpa using hq
      | cons i F =>
        rw [eF] at hf hr
        have e1 : lsV n t = .int ((i : Int) + 1) := by unfold lsV; rw [← hf] <;> rfl
        rw [e1] at hd1
        cases hd1
        cases hr with
        | cons h1 h2 =>
        cases h1
        refine iteY (by simp [PyData.eqv, PyData.eqvAll]) ⟨va, rfl, _, by rw [upd_ne na]; exact ha, _, atI_0, _, .int _, hd2, by simp [sz], ?_⟩
        simpa using hq
def sp_law (K : PySem.W.Frag) : Sp := sp1 fun x H Q _ => ∃ (a : Addr) (ns : List Int), x = .ref a ∧ SqL K H a (ns.map V.int) ∧ ns.length ≤ 63 ∧ ∀ H', Q (.bl true) H'
theorem sc_law : FnScope ["_law_script", "_law_k", "_law_reel", "_law_turn", "_law_told"] ["_law_script"] (defScope s_law) := ⟨rfl, rfl, rfl, by decide +kernel, rfl, by decide +kernel, by decide +kernel⟩
theorem ok_law (T : Txt P w K mg base) : GOk P w K mg base (L2.CX P w) 7 T.a_law T.fd_law ["_law_script"] (sp_law K) := by
  refine FunD.gok T.F_law sc_law (fun vs H Q E h => ar1 h) (fun cdv A fr s H vs Q E hr hc h => ⟨_, PSs.nox (pss_cons (ps_if (pt_not (pt_val (pe_callG (ok_L_small_right T) hr hc (by rfl) T.g_L_small_right T.F_L_small_right.kp T.b_L_small_right .nil passL (pa_cons pe_int (pa_cons pe_int pa_nil))))) (pss_one (ps_ret pe_bl)) pss_nil) (pss_cons (ps_for PassesOwn.never rfl (pi_range1 (by rfl) T.n_range (pa_cons (pe_callB (call_max2 rfl) (by rfl) T.n_max (by decide +kernel) (pa_cons pe_int (pa_cons (pe_callB (call_min2 rfl) (by rfl) T.n_min (by decide +kernel) (pa_cons pe_int (pa_cons (pe_callB call_len_seq (by rfl) T.n_len (by decide +kernel) (pa_cons (pv 0) pa_nil)) pa_nil))) pa_nil))) pa_nil)) (pg_name (i := 1) sc_law.nd rfl (.inl rfl)) (pss_cons (ps_set (i := 2) sc_law.nd rfl (.inl rfl) (pe_callG (ok_L_wound T) (hr.mono (by decide)) hc (by rfl) T.g_L_wound T.F_L_wound.kp T.b_L_wound .nil passL (pa_cons (pv 0) (pa_cons (pv 1) pa_nil)))) (pss_one (ps_for PassesOwn.never rfl (pi_range1 (by rfl) T.n_range (pa_cons pe_int pa_nil)) (pg_name (i := 3) sc_law.nd rfl (.inl rfl)) (pss_one (ps_if (pt_not (pt_val (pe_callG (ok_L_right T) hr hc (by rfl) T.g_L_right T.F_L_right.kp T.b_L_right .nil passL (pa_cons (pv 2) pa_nil)))) (pss_one (ps_ret pe_bl)) pss_nil)))))) (pss_cons (ps_set (i := 4) sc_law.nd rfl (.inl rfl) (pe_lst (pa_cons (pe_callG (ok_least_rounds T) (hr.mono (by decide)) hc (by rfl) T.g_least_rounds T.F_least_rounds.kp T.b_least_rounds .nil passL (pa_cons pe_int (pa_cons pe_int pa_nil))) (pa_cons (pe_callG (ok_least_rounds T) (hr.mono (by decide)) hc (by rfl) T.g_least_rounds T.F_least_rounds.kp T.b_least_rounds .nil passL (pa_cons pe_int (pa_cons pe_int pa_nil))) (pa_cons (pe_callG (ok_least_slots T) (hr.mono (by decide)) hc (by rfl) T.g_least_slots T.F_least_slots.kp T.b_least_slots .nil passL (pa_cons pe_int (pa_cons pe_int pa_nil))) (pa_cons (pe_callG (ok_least_slots T) (hr.mono (by decide)) hc (by rfl) T.g_least_slots T.F_least_slots.kp T.b_least_slots .nil passL (pa_cons pe_int (pa_cons pe_int pa_nil))) (pa_cons (pe_callG (ok_least_rounds T) (hr.mono (by decide)) hc (by rfl) T.g_least_rounds T.F_least_rounds.kp T.b_least_rounds .nil passL (pa_cons (pe_op op_powC pe_int pe_int) (pa_cons pe_int pa_nil))) pa_nil))))))) (pss_cons (ps_if (PW.pt (pw_or (pt_cmpR (op_neF hr) (pv 4) (pe_lst (pa_cons pe_int (pa_cons pe_int (pa_cons pe_int (pa_cons pe_non (pa_cons (pe_op op_sub (pe_op op_powC pe_int pe_int) pe_int) pa_nil)))))) (nomark _)) (pw_or1 (pt_cmpR (op_neF hr) (pe_lst (pa_cons (pe_callG (ok_least_slots T) (hr.mono (by decide)) hc (by rfl) T.g_least_slots T.F_least_slots.kp T.b_least_slots .nil passL (pa_cons pe_int (pa_cons pe_int pa_nil))) (pa_cons (pe_callG (ok_least_rounds T) (hr.mono (by decide)) hc (by rfl) T.g_least_rounds T.F_least_rounds.kp T.b_least_rounds .nil passL (pa_cons pe_int (pa_cons pe_int pa_nil))) pa_nil))) (pe_lst (pa_cons pe_int (pa_cons pe_int pa_nil))) (nomark _))))) (pss_one (ps_ret pe_bl)) pss_nil) (pss_one (ps_ret (pe_cmpR (op_eqF hr) (pe_lst (pa_cons (pe_callG (ok_least_slots T) (hr.mono (by decide)) hc (by rfl) T.g_least_slots T.F_least_slots.kp T.b_least_slots .nil passL (pa_cons pe_int (pa_cons pe_int pa_nil))) (pa_cons (pe_callG (ok_least_slots T) (hr.mono (by decide)) hc (by rfl) T.g_least_slots T.F_least_slots.kp T.b_least_slots .nil passL (pa_cons pe_int (pa_cons pe_int pa_nil))) pa_nil))) (pe_lst (pa_cons pe_int (pa_cons pe_non pa_nil))) (nomark _)))))))), ?_⟩)
  obtain ⟨_, rfl, a, ns, rfl, hS, hl, q⟩ := h
  walk_at "rd"
  unfold sp_L_small_right
  walk_at "rd"
  intro H1 e1
  apply for_rng1 (if ns.length = 0 then 1 else min 6 ns.length) (Pv := fun i σ H' => Ex H H' ∧ ∃ x y z, σ = [some (.ref a), x, y, z, none])
  · intro R q
    walk_at "rd"
    refine ⟨_, .inl (Evl.ex_l e1 hS), ?_⟩
    exact q
  · rw [List.length_map]; split <;> split <;> split <;> omega
  · rw [List.length_map]; split <;> split <;> omega
  · exact ⟨e1, _, _, _, rfl⟩
  · rintro σ H2 ⟨e2, x, y, z, rfl⟩
    walk_at "rd"
    unfold sp_least_rounds sp_least_slots
    walk_at "rd"
    have v1 : rho 6 2 = 2 := by decide +kernel
    have v2 : rho 7 2 = 3 := by decide +kernel
    have v3 : lsV 10 2 = .int 3 := by decide +kernel
    have v4 : lsV 2 0 = .non := by decide +kernel
    have v5 : rho 1000000000000000000000000000000 1 = 999999999999999999999999999999 := rho_eq (by decide) (by decide) (by decide) (by rw [Rz_one (by decide)]; decide) (by rw [Rz_one (by decide)]; decide)
    have v6 : lsV 1 0 = .int 1 := by decide +kernel
    have v7 : rho 1 100 = 0 := by decide +kernel
    have v8 : lsV 5151 2 = .int 100 := by decide +kernel
    have v9 : lsV 5152 2 = .non := by decide +kernel
    rw [v1, v2, v3, v4, v5, v6, v7, v8, v9]
    intro H3 e3 H4 e4 H5 e5 p1 hp1 p2 hp2
    refine neF_same (by rw [upd_ne (ne_of_none upd_same hp2)]; exact upd_same) upd_same (.cons (.int 2) (.cons (.int 3) (.cons (.int 3) (.cons .non (.cons (.int _) .nil))))) (by decide +kernel) ?_
    intro H6 e6 p3 hp3 p4 hp4
    refine neF_same (by rw [upd_ne (ne_of_none upd_same hp4)]; exact upd_same) upd_same (.cons (.int 1) (.cons (.int 0) .nil)) (by decide +kernel) ?_
    intro p5 hp5 p6 hp6
    exact eqF_same (by rw [upd_ne (ne_of_none upd_same hp6)]; exact upd_same) upd_same (.cons (.int 100) (.cons .non .nil)) (by decide +kernel) (q _)
  · rintro i σ H2 hi ⟨e2, x, y, z, rfl⟩
    walk_at "rd"
    unfold sp_L_wound
    walk_at "rd"
    refine ⟨_, _, rfl, Evl.ex_l e2 hS, hl, by split at hi <;> omega, fun r H3 hr3 e3 R3 => ?_⟩
    refine for_rng1 8 (fun R q => by walk_at "rd"; exact q) rfl (by omega) (fun j σ H' => Mo r H3 H' ∧ Reel H' r (11 * j) ∧ ∃ z, σ = [some (.ref a), some (.int i), some (.ref r), z, none]) ⟨Mo.refl _ _, by simpa using R3, _, rfl⟩ ?_ ?_
    · rintro σ H4 ⟨o4, _, z, rfl⟩
      walk_at "rd"
      exact Mo.ex_new (e2.trans e3) (Evl.fresh_back e2 hr3) o4
    · rintro j σ H4 hj ⟨o4, R4, z, rfl⟩
      walk_at "rd"
      unfold sp_L_right
      walk_at "rd"
      refine ⟨_, R4, by omega, fun H5 o5 R5 => ⟨o4.trans o5, ?_⟩⟩
      rw [show (11 : Int) * ((j + 1 : Nat) : Int) = 11 * (j : Int) + 11 by omega]
      exact R5
end
def d_is_int : He.DefD := ⟨("is_int", none), "is_int", "is_int", defArgs s_is_int, defBody s_is_int, defScope s_is_int, [], []⟩
def d_is_whole : He.DefD := ⟨("is_whole", none), "is_whole", "is_whole", defArgs s_is_whole, defBody s_is_whole, defScope s_is_whole, [], []⟩
def d_require_length : He.DefD := ⟨("require_length", none), "require_length", "require_length", defArgs s_require_length, defBody s_require_length, defScope s_require_length, [], []⟩
def d_require_slots : He.DefD := ⟨("require_slots", none), "require_slots", "require_slots", defArgs s_require_slots, defBody s_require_slots, defScope s_require_slots, [], []⟩
def d_require_rounds : He.DefD := ⟨("require_rounds", none), "require_rounds", "require_rounds", defArgs s_require_rounds, defBody s_require_rounds, defScope s_require_rounds, [], []⟩
def d_require_task : He.DefD := ⟨("require_task", none), "require_task", "require_task", defArgs s_require_task, defBody s_require_task, defScope s_require_task, [], []⟩
def d_reach_of : He.DefD := ⟨("reach_of", none), "reach_of", "reach_of", defArgs s_reach_of, defBody s_reach_of, defScope s_reach_of, [], []⟩
def d_rounds_of : He.DefD := ⟨("rounds_of", none), "rounds_of", "rounds_of", defArgs s_rounds_of, defBody s_rounds_of, defScope s_rounds_of, [], []⟩
def d_least_rounds : He.DefD := ⟨("least_rounds", none), "least_rounds", "least_rounds", defArgs s_least_rounds, defBody s_least_rounds, defScope s_least_rounds, [], []⟩
def d_least_slots : He.DefD := ⟨("least_slots", none), "least_slots", "least_slots", defArgs s_least_slots, defBody s_least_slots, defScope s_least_slots, [], []⟩
def d_L_wound : He.DefD := ⟨("_law_wound", none), "_law_wound", "_law_wound", defArgs s_L_wound, defBody s_L_wound, defScope s_L_wound, [], []⟩
def d_L_spin : He.DefD := ⟨("_law_spin", none), "_law_spin", "_law_spin", defArgs s_L_spin, defBody s_L_spin, defScope s_L_spin, [], []⟩
def d_L_choose : He.DefD := ⟨("_law_choose", none), "_law_choose", "_law_choose", defArgs s_L_choose, defBody s_L_choose, defScope s_L_choose, [], []⟩
def d_L_great : He.DefD := ⟨("_law_great", none), "_law_great", "_law_great", defArgs s_L_great, defBody s_L_great, defScope s_L_great, [], []⟩
def d_L_small_right : He.DefD := ⟨("_law_small_right", none), "_law_small_right", "_law_small_right", defArgs s_L_small_right, defBody s_L_small_right, defScope s_L_small_right, [], []⟩
def d_L_right : He.DefD := ⟨("_law_right", none), "_law_right", "_law_right", defArgs s_L_right, defBody s_L_right, defScope s_L_right, [], []⟩
def d_law : He.DefD := ⟨("law", none), "law", "law", defArgs s_law, defBody s_law, defScope s_law, [], []⟩
def fn : List He.DefD := [d_is_int, d_is_whole, d_require_length, d_require_slots, d_require_rounds, d_require_task, d_reach_of, d_rounds_of, d_least_rounds, d_least_slots, d_L_wound, d_L_spin, d_L_choose, d_L_great, d_L_small_right, d_L_right, d_law]
def fa : List He.Fa := [.glo "is_int", .glo "is_whole", .glo "require_length", .glo "require_slots", .glo "require_rounds", .glo "require_task", .glo "reach_of", .glo "rounds_of", .glo "least_rounds", .glo "least_slots", .glo "_law_wound", .glo "_law_spin", .glo "_law_choose", .glo "_law_great", .glo "_law_small_right", .glo "_law_right", .glo "law", .free "isinstance", .free "int", .free "bool", .free "range", .free "len", .free "max", .free "min", .free "repr", .int "MOST_LENGTH" (1000000000000000000000000000000), .int "MOST_SLOTS" (100), .int "MOST_ROUNDS" (1000)]
abbrev RowR : PySem.W.OpenRow := PySem.W.OpenLaw.row PySem.Challenge.rw_backslots_k02_rounds_and_slots
abbrev hk : PySem.W.Hook := He.hookD 6 fa fn
def ob (s : PySem.W.SharedT) : He.AlD := He.obsDG 6 fa fn (HandSHeadRun.getT s)
theorem ob_eq (s : PySem.W.SharedT) : ob s = hk.obs s.abs := He.obsDG_eq (HandSHeadRun.getT_eq s)
def loose : List Str := (["is_int", "is_whole", "SlotError", "InvalidLength", "InvalidSlots", "InvalidRounds", "MOST_LENGTH", "MOST_SLOTS", "MOST_ROUNDS", "require_length", "require_slots", "require_rounds", "require_task", "reach_of", "rounds_of", "least_rounds", "least_slots", "_law_wound", "_law_spin", "_law_choose", "_law_great", "_law_small_right", "_law_right"] : List Str)
theorem run (w : World) : HandSHeadRun.RunEq RowR (PySem.W.view RowR.prog [27]) hk ob 4000 loose w := by
  intro os
  kernel_rfl
theorem facts {P : Program} {w : World} {K : PySem.W.Frag} {h : Heap} {mg : Str → Option Value} {f : Addr} (X : K.In h) (G : h.Ns mainGlobals mg) (hfa : mg ("law" : Str) = some (.ref f)) (c : He.SaysD fa fn K) :
    ∃ fd : FuncData, (∀ (s : Shared) (v : Value), BindsTo s fd ⟨[v], []⟩ [("_law_script", v)]) ∧ ∀ base : Heap, K.In base → base.Ns mainGlobals mg → GOk P w K mg base (L2.CX P w) 7 f fd ["_law_script"] (sp_law K) := by
  obtain ⟨fd_is_int, F_is_int⟩ := c.def_ 0 (d := d_is_int) rfl
  have b_is_int : Binds K fd_is_int ["value"] [] := F_is_int.bindsN fun _ _ _ _ _ _ us hl => match us, hl with | [_], _ => rfl
  obtain ⟨fd_is_whole, F_is_whole⟩ := c.def_ 1 (d := d_is_whole) rfl
  have b_is_whole : Binds K fd_is_whole ["value", "low", "high"] [] := F_is_whole.bindsN fun _ _ _ _ _ _ us hl => match us, hl with | [_, _, _], _ => rfl
  obtain ⟨fd_require_length, F_require_length⟩ := c.def_ 2 (d := d_require_length) rfl
  have b_require_length : Binds K fd_require_length ["value"] [] := F_require_length.bindsN fun _ _ _ _ _ _ us hl => match us, hl with | [_], _ => rfl
  obtain ⟨fd_require_slots, F_require_slots⟩ := c.def_ 3 (d := d_require_slots) rfl
  have b_require_slots : Binds K fd_require_slots ["value"] [] := F_require_slots.bindsN fun _ _ _ _ _ _ us hl => match us, hl with | [_], _ => rfl
  obtain ⟨fd_require_rounds, F_require_rounds⟩ := c.def_ 4 (d := d_require_rounds) rfl
  have b_require_rounds : Binds K fd_require_rounds ["value"] [] := F_require_rounds.bindsN fun _ _ _ _ _ _ us hl => match us, hl with | [_], _ => rfl
  obtain ⟨fd_require_task, F_require_task⟩ := c.def_ 5 (d := d_require_task) rfl
  have b_require_task : Binds K fd_require_task ["length", "slots"] [] := F_require_task.bindsN fun _ _ _ _ _ _ us hl => match us, hl with | [_, _], _ => rfl
  obtain ⟨fd_reach_of, F_reach_of⟩ := c.def_ 6 (d := d_reach_of) rfl
  have b_reach_of : Binds K fd_reach_of ["slots", "rounds"] [] := F_reach_of.bindsN fun _ _ _ _ _ _ us hl => match us, hl with | [_, _], _ => rfl
  obtain ⟨fd_rounds_of, F_rounds_of⟩ := c.def_ 7 (d := d_rounds_of) rfl
  have b_rounds_of : Binds K fd_rounds_of ["length", "slots"] [] := F_rounds_of.bindsN fun _ _ _ _ _ _ us hl => match us, hl with | [_, _], _ => rfl
  obtain ⟨fd_least_rounds, F_least_rounds⟩ := c.def_ 8 (d := d_least_rounds) rfl
  have b_least_rounds : Binds K fd_least_rounds ["length", "slots"] [] := F_least_rounds.bindsN fun _ _ _ _ _ _ us hl => match us, hl with | [_, _], _ => rfl
  obtain ⟨fd_least_slots, F_least_slots⟩ := c.def_ 9 (d := d_least_slots) rfl
  have b_least_slots : Binds K fd_least_slots ["length", "rounds"] [] := F_least_slots.bindsN fun _ _ _ _ _ _ us hl => match us, hl with | [_, _], _ => rfl
  obtain ⟨fd_L_wound, F_L_wound⟩ := c.def_ 10 (d := d_L_wound) rfl
  have b_L_wound : Binds K fd_L_wound ["_law_script", "_law_k"] [] := F_L_wound.bindsN fun _ _ _ _ _ _ us hl => match us, hl with | [_, _], _ => rfl
  obtain ⟨fd_L_spin, F_L_spin⟩ := c.def_ 11 (d := d_L_spin) rfl
  have b_L_spin : Binds K fd_L_spin ["_law_reel", "_law_many"] [] := F_L_spin.bindsN fun _ _ _ _ _ _ us hl => match us, hl with | [_, _], _ => rfl
  obtain ⟨fd_L_choose, F_L_choose⟩ := c.def_ 12 (d := d_L_choose) rfl
  have b_L_choose : Binds K fd_L_choose ["_law_slots", "_law_rounds"] [] := F_L_choose.bindsN fun _ _ _ _ _ _ us hl => match us, hl with | [_, _], _ => rfl
  obtain ⟨fd_L_great, F_L_great⟩ := c.def_ 13 (d := d_L_great) rfl
  have b_L_great : Binds K fd_L_great ["_law_reel"] [] := F_L_great.bindsN fun _ _ _ _ _ _ us hl => match us, hl with | [_], _ => rfl
  obtain ⟨fd_L_small_right, F_L_small_right⟩ := c.def_ 14 (d := d_L_small_right) rfl
  have b_L_small_right : Binds K fd_L_small_right ["_law_most", "_law_slots"] [] := F_L_small_right.bindsN fun _ _ _ _ _ _ us hl => match us, hl with | [_, _], _ => rfl
  obtain ⟨fd_L_right, F_L_right⟩ := c.def_ 15 (d := d_L_right) rfl
  have b_L_right : Binds K fd_L_right ["_law_reel"] [] := F_L_right.bindsN fun _ _ _ _ _ _ us hl => match us, hl with | [_], _ => rfl
  obtain ⟨fd_law, F_law⟩ := c.def_ 16 (d := d_law) rfl
  have b_law : Binds K fd_law ["_law_script"] [] := F_law.bindsN fun _ _ _ _ _ _ us hl => match us, hl with | [_], _ => rfl
  have e := hfa.symm.trans (He.glo_ok X G (c.fact 16 (f := .glo "law") rfl))
  cases e
  obtain ⟨t_MOST_LENGTH, c_MOST_LENGTH⟩ := He.int_ok X G (c.fact 25 (f := .int "MOST_LENGTH" (1000000000000000000000000000000)) rfl)
  obtain ⟨t_MOST_SLOTS, c_MOST_SLOTS⟩ := He.int_ok X G (c.fact 26 (f := .int "MOST_SLOTS" (100)) rfl)
  obtain ⟨t_MOST_ROUNDS, c_MOST_ROUNDS⟩ := He.int_ok X G (c.fact 27 (f := .int "MOST_ROUNDS" (1000)) rfl)
  have b := FunD.bindsA (ps := ["_law_script"]) F_law fun _ _ _ _ _ _ us hl => match us, hl with | [_], _ => rfl
  exact ⟨fd_law, fun s v => b s [v] rfl, fun base _ _ => ok_law ⟨_,
    fd_is_int,
    F_is_int,
    b_is_int,
    He.glo_ok X G (c.fact 0 (f := .glo "is_int") rfl),
    _,
    fd_is_whole,
    F_is_whole,
    b_is_whole,
    He.glo_ok X G (c.fact 1 (f := .glo "is_whole") rfl),
    _,
    fd_require_length,
    F_require_length,
    b_require_length,
    He.glo_ok X G (c.fact 2 (f := .glo "require_length") rfl),
    _,
    fd_require_slots,
    F_require_slots,
    b_require_slots,
    He.glo_ok X G (c.fact 3 (f := .glo "require_slots") rfl),
    _,
    fd_require_rounds,
    F_require_rounds,
    b_require_rounds,
    He.glo_ok X G (c.fact 4 (f := .glo "require_rounds") rfl),
    _,
    fd_require_task,
    F_require_task,
    b_require_task,
    He.glo_ok X G (c.fact 5 (f := .glo "require_task") rfl),
    _,
    fd_reach_of,
    F_reach_of,
    b_reach_of,
    He.glo_ok X G (c.fact 6 (f := .glo "reach_of") rfl),
    _,
    fd_rounds_of,
    F_rounds_of,
    b_rounds_of,
    He.glo_ok X G (c.fact 7 (f := .glo "rounds_of") rfl),
    _,
    fd_least_rounds,
    F_least_rounds,
    b_least_rounds,
    He.glo_ok X G (c.fact 8 (f := .glo "least_rounds") rfl),
    _,
    fd_least_slots,
    F_least_slots,
    b_least_slots,
    He.glo_ok X G (c.fact 9 (f := .glo "least_slots") rfl),
    _,
    fd_L_wound,
    F_L_wound,
    b_L_wound,
    He.glo_ok X G (c.fact 10 (f := .glo "_law_wound") rfl),
    _,
    fd_L_spin,
    F_L_spin,
    b_L_spin,
    He.glo_ok X G (c.fact 11 (f := .glo "_law_spin") rfl),
    _,
    fd_L_choose,
    F_L_choose,
    b_L_choose,
    He.glo_ok X G (c.fact 12 (f := .glo "_law_choose") rfl),
    _,
    fd_L_great,
    F_L_great,
    b_L_great,
    He.glo_ok X G (c.fact 13 (f := .glo "_law_great") rfl),
    _,
    fd_L_small_right,
    F_L_small_right,
    b_L_small_right,
    He.glo_ok X G (c.fact 14 (f := .glo "_law_small_right") rfl),
    _,
    fd_L_right,
    F_L_right,
    b_L_right,
    He.glo_ok X G (c.fact 15 (f := .glo "_law_right") rfl),
    _,
    fd_law,
    F_law,
    b_law,
    He.glo_ok X G (c.fact 16 (f := .glo "law") rfl),
    He.free_ok X G (c.fact 17 (f := .free "isinstance") rfl),
    He.free_ok X G (c.fact 18 (f := .free "int") rfl),
    He.free_ok X G (c.fact 19 (f := .free "bool") rfl),
    He.free_ok X G (c.fact 20 (f := .free "range") rfl),
    He.free_ok X G (c.fact 21 (f := .free "len") rfl),
    He.free_ok X G (c.fact 22 (f := .free "max") rfl),
    He.free_ok X G (c.fact 23 (f := .free "min") rfl),
    He.free_ok X G (c.fact 24 (f := .free "repr") rfl),
    t_MOST_LENGTH,
    c_MOST_LENGTH,
    t_MOST_SLOTS,
    c_MOST_SLOTS,
    t_MOST_ROUNDS,
    c_MOST_ROUNDS⟩⟩
end Bs
open PySem PySem.W PySem.Calls PyProof.Rows
theorem PySem.Challenge.cw_backslots_k02_rounds_and_slots_holds : PySem.Challenge.rw_backslots_k02_rounds_and_slots.Holds := by
  w_on; o_law
  refine HandSHeadRun.head_any (r := OpenLaw.row PySem.Challenge.rw_backslots_k02_rounds_and_slots) (q := view (OpenLaw.row PySem.Challenge.rw_backslots_k02_rounds_and_slots).prog [27]) (H := Bs.hk) (ob := Bs.ob) (M := 4000) (loose := Bs.loose) (d := HandSHeadRun.topDef (OpenLaw.row PySem.Challenge.rw_backslots_k02_rounds_and_slots).prog 27) (kwd := []) Bs.ob_eq
    (by kernel_rfl) (fun s => by kernel_rfl) Bs.run (by kernel_rfl) (by kernel_rfl) (by kernel_rfl) (by rfl) (by first | assumption | decide +kernel) (by decide +kernel) ⟨rfl, rfl, rfl, rfl, rfl, by decide +kernel⟩ ?hw ?hc
  case hw => w_witness2
  case hc =>
    refine Bs.walk_g (l := PySem.Challenge.rw_backslots_k02_rounds_and_slots) (n := 63) (k := 7) (x := "_law_script") rfl (by decide) (by kernel_rfl) ⟨rfl, by decide, by decide⟩ ?F
    intro w mg fa h Y G hmg0
    obtain ⟨K, KX, c⟩ := Y
    have hmg : mg ("law" : PySem.Str) = some (.ref fa) := by
      have e : (HandSHeadRun.topDef (OpenLaw.row PySem.Challenge.rw_backslots_k02_rounds_and_slots).prog 27).name = ("law" : PySem.Str) := by kernel_rfl
      rw [← e]
      exact hmg0
    obtain ⟨fd, hb, hF⟩ := Bs.facts (P := (PySem.Challenge.rw_backslots_k02_rounds_and_slots).prog) (w := w) KX G hmg c
    exact ⟨K, fd, Bs.sp_law K, KX, hb, fun H a ns hl hO hS => Bs.law_in hl hS fun _ => rfl, hF⟩
