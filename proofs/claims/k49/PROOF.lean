import PyProof.Rows.All
import Wide.All
import OpenK.AllK
import Wide.FinOn
import KE.KStateDown
import Lean
import HandS.ForMost
import HandS.Exc
import HandS.TryOnly
import HandS.ExcOwn
import HandS.WordsExc
import HandS.Wide
import HandS.IsInst
import HandS.Evl
import HandS.SortInts
import HandS.Small
import HandS.Style
import PyProof.MaxThree
import HandS.Defaults
import HandS.Head0
import HandS.Head1
import HandS.Head2
import HandS.HeadEnd
import HandS.HeadHook1
import HandS.HeadHook2
import PyProof.ReprRoads
import HandS.Walk
import HandS.Star
import HandS.Conv
import HandS.Dict
import HandS.ListItems
import HandS.SortRule
import HandS.ExcIs
import HandS.ExcField
import HandS.ExcValue
import KE.KExcIs
import HandS.ExcInit
import HandS.Property
import HandS.Remove
import HandS.HeadHook3
import KE.GoesEnum
import HandS.RaiseMore
import HandS.Deep
import HandS.Text
import HandS.Iter
import KE.KIntText
import PySem.Challenge.RW_backslots_k49_whole_texts
set_option Elab.async false
set_option linter.all false
set_option maxRecDepth 100000
set_option maxHeartbeats 4000000
namespace Bs
open PySem PySem.Spec PyProof.Rows L2
open Evl (Ex)

/-! ### a def without defaults -/
abbrev FnP (K : PySem.W.Frag) (x q : Str) (st : Stmt) (f : Addr) (fd : FuncData) : Prop := FunD K x q (defArgs st) (defBody st) (defScope st) [] [] f fd

/-! ### heaps that grow -/
theorem exn {H : Hp} {p : Addr} {o : HO} (h : H p = none) : Ex H (upd H p o) := Ex.new h
theorem dp_ex {K : PySem.W.Frag} {H H' : Hp} (e : Ex H H') : ∀ (d : PyData) (v : V), Dp K H v d → Dp K H' v d
  | .none, _, .non => .non
  | .bool _, _, .bl b => .bl b
  | .int _, _, .int i => .int i
  | .str _, _, .str x => .str x
  | .list ds, _, .lst h a => .lst (Evl.ex_l e h) (go ds _ a)
  | .tuple ds, _, .tup h a => .tup (Evl.ex_t e h) (go ds _ a)
where go : ∀ (ds : List PyData) (vs : List V), DpAll K H vs ds → DpAll K H' vs ds
  | [], _, .nil => .nil
  | d :: ds, _, .cons h r => .cons (dp_ex e d _ h) (go ds _ r)

/-! ### defs called where no repr is under way -/
abbrev Clean (A : Around) : Prop := A.guards = some []
/-- as FnOk, where no repr is under way -/
structure GOk (P : Program) (w : World) (K : PySem.W.Frag) (mg : Str → Option Value) (base : Heap)
    (C : CXT) (k : Nat) (f : Addr) (fd : FuncData) (ps : List Str) (sp : Sp) : Prop where
  arity : ∀ vs H Q E, sp vs H Q E → vs.length = ps.length
  go : ∀ (A : Around) (fr : List Env) (s : Shared) (H : Hp) (args : Args) (us : List Value) (vs : List V) (Q : VK) (E : XK),
    Room k A → Clean A → Env0 P w K mg base A fr s H → BindsTo s fd args (ps.zip us) → Vals vs us →
    sp vs H Q E → codeAny (model P w) A (.call (.ref f) args) (CR C fr P w H s Q E) s
section
variable {P : Program} {w : World} {K : PySem.W.Frag} {mg : Str → Option Value} {base : Heap} {C : CXT} {k j : Nat}
  {f : Addr} {fd : FuncData} {ps N : List Str} {sp sp' : Sp}
theorem GOk.up (F : GOk P w K mg base C j f fd ps sp) (h : j ≤ k) : GOk P w K mg base C k f fd ps sp :=
  ⟨F.arity, fun A fr s H args us vs Q E r => F.go A fr s H args us vs Q E (r.mono h)⟩
theorem GOk.weak (F : GOk P w K mg base C k f fd ps sp) (h : ∀ vs H Q E, sp' vs H Q E → sp vs H Q E) : GOk P w K mg base C k f fd ps sp' :=
  ⟨fun vs H Q E q => F.arity vs H Q E (h _ _ _ _ q), fun A fr s H args us vs Q E r g e b v q => F.go A fr s H args us vs Q E r g e b v (h _ _ _ _ q)⟩
/-- a def by its body, no repr under way -/
theorem gok_of {name qual : Str} {pr : Arguments} {body : List Stmt} {scope : Scope} {dV kV doc pm cdv ct oc : Value} {an od : Option Addr} {osl : Array (Option Value)}
    (lk : K.lookup f = some ⟨oc, od, .func (PySem.W.fnOf name qual pr body scope dV kV doc pm an cdv ct), osl⟩)
    (hcd : PySem.W.codeIn K cdv qual = true) (S : FnScope N ps scope)
    (ar : ∀ vs H Q E, sp vs H Q E → vs.length = ps.length)
    (hb : ∀ (A : Around) (fr : List Env) (s : Shared) (H : Hp) (vs : List V) (Q : VK) (E : XK),
      Room k (A.deeper (envOfC qual scope s.heap.objs.size f cdv)) → Clean A → sp vs H Q E →
      ∃ t, PSs (cxOf C P w K mg base N qual scope f cdv A fr s H E) body t ∧
        t { nx := fun _ H' => Q .non H', rt := Q } (start N vs) H) :
    GOk P w K mg base C (k + 1) f (PySem.W.fnOf name qual pr body scope dV kV doc pm an cdv ct) ps sp := by
  refine ⟨ar, ?_⟩
  intro A fr s H args us vs Q E hr hg e0 bd rv hsp
  have in0 : ∀ b o, base.get? b = some o → s.heap.get? b = some o := fun b o e => (e0.bs b o e).1
  have inK : K.In s.heap := e0.mod.kin.keeps in0
  refine codeAny_call_function hr.depth (inK _ _ lk) rfl S.co S.gen rfl (PySem.W.codeRec_of inK hcd) (bd _ _ _ _ ?_)
  have kinds : ∀ y ∈ ps.zip us, scope.names.lookup y.1 = some .local ∨
      (scope.names.lookup y.1 = some .cell ∧ ((cellsFrom (s.heap.objs.size + 1) scope.names []).lookup y.1).isSome = true) := by
    rintro ⟨n, v⟩ hy
    exact (S.par n (List.of_mem_zip hy).1).imp id fun q => ⟨q, PySem.W.cellsFrom_some _ _ _ (.inl q)⟩
  refine wpAny_newFunctionEnv_cells S.kind kinds ?_
  intro env he s1 x
  subst he
  refine ⟨(e0.mod.nolimit.keeps in0).keeps x.toInCall.keep, codeAny_func ?_⟩
  obtain ⟨t, ht, hq⟩ := hb A fr s H vs Q E (hr.deeper _) hg hsp
  have I0 := inv_start (CX := C) (E := E) S hr.hd e0 (ar _ _ _ _ hsp) rv x
  refine wpAny_mono (ht.run [] s1 (start N vs) H _ I0 hq) ?_ (fun _ _ z => z)
  intro fl s' z
  cases fl with
  | next => obtain ⟨_, H', J, q⟩ := z; exact ⟨.non, H', J.os, J.bare, J.base, J.hok, rfl, q⟩
  | ret u => obtain ⟨v, _, H', J, r, q⟩ := z; exact ⟨v, H', J.os, J.bare, J.base, J.hok, r, q⟩
  | brk => exact z.elim fun _ z => z.elim fun _ z => z.2.elim
  | cont => exact z.elim fun _ z => z.elim fun _ z => z.2.elim
theorem FunD.gok {x qual : Str} {pr : Arguments} {body : List Stmt} {scope : Scope} {dvs : List V} {kws : List (Str × V)}
    (F : FunD K x qual pr body scope dvs kws f fd) (S : FnScope N ps scope) (ar : ∀ vs H Q E, sp vs H Q E → vs.length = ps.length)
    (hb : ∀ (cdv : Value) (A : Around) (fr : List Env) (s : Shared) (H : Hp) (vs : List V) (Q : VK) (E : XK),
      Room k (A.deeper (envOfC qual scope s.heap.objs.size f cdv)) → Clean A → sp vs H Q E →
      ∃ t, PSs (cxOf C P w K mg base N qual scope f cdv A fr s H E) body t ∧
        t { nx := fun _ H' => Q .non H', rt := Q } (start N vs) H) :
    GOk P w K mg base C (k + 1) f fd ps sp := by
  obtain ⟨oc, od, dV, kV, doc, pm, an, cdv, ct, osl, rfl, lk, hcd, _, _⟩ := F.ex
  exact gok_of lk hcd S ar (hb cdv)
end
section
variable {X : Cx} {C : CXT} {k : Nat} {f Cl : Addr} {fd : FuncData} {ps : List Str} {sp : Sp} {dvs : List V} {ds : List Value} {E : XK}
  {x m : Str} {p pos apos : Pos} {e o : Expr} {es : List Expr} {ta : TE} {t : TA}
/-- the callee runs, no repr under way -/
theorem run_g {pins : List (Addr × Obj)} {σ : L2.St} {H : Hp} {s : Shared} {Q : VK} {us : List Value} {vs : List V}
    (F : GOk X.prog X.w X.K X.mg X.base C k f fd ps sp) (hr : Room k X.A) (hc : Clean X.A) (hb : Binds X.K fd ps ds) (hd : Vals dvs ds)
    (hx : Passes C X E) (I : Inv X pins σ H s) (r : Vals vs us) (h : sp (vs ++ dvs) H Q E) :
    wpAny (model X.prog X.w) X.A (call (.ref f) us) (EP X pins σ Q) X.xe s := by
  have rr := r.append hd
  have len : (us ++ ds).length = ps.length := rr.length ▸ F.arity _ _ _ _ h
  have one := F.go X.A X.stack s H ⟨us, []⟩ (us ++ ds) (vs ++ dvs) Q E hr hc I.env0 (hb s us I.kIn len) rr h
  refine wpAny_call (codeAny_mono one ?_)
  rintro (e | fl) s' z
  · exact hx pins σ H s e s' I z
  · cases fl with
    | ret u => exact I.after z
    | _ => exact z.elim
theorem pe_callG (F : GOk X.prog X.w X.K X.mg X.base C k f fd ps sp) (hr : Room k X.A) (hc : Clean X.A) (hg : Gl X x) (hm : X.mg x = some (.ref f))
    (hk : PySem.W.keepIn X.K (.ref f) = true) (hb : Binds X.K fd ps ds) (hd : Vals dvs ds) (hx : Passes C X E) (ha : PA X (e :: es) t)
    (hdb : (x == ("__debug__" : Str)) = false := by decide)
    (he : starEach (e :: es) X.env = (false, eval e X.env) :: starEach es X.env := by rfl)
    (hpl : (backTo pos (starEach es X.env)).any (·.1) = false := by rfl) :
    PE X (.Call (.Name x p) (e :: es) [] pos) (tCall sp dvs E t) :=
  ⟨fun pins s σ H Q I h => wpAny_Call_Name_kw (ld_glob I hg hm (PySem.W.callWith_K (h₀ := X.base) I.ok.mod.kin hk
    (thn (ha.run pos pins s σ H _ I h) fun _ _ ⟨_, _, I1, r, q⟩ => ⟨I1.kIn, run_g F hr hc hb hd hx I1 r q⟩) he hpl) hdb)⟩
theorem pe_callG0 (F : GOk X.prog X.w X.K X.mg X.base C k f fd ps sp) (hr : Room k X.A) (hc : Clean X.A) (hg : Gl X x) (hm : X.mg x = some (.ref f))
    (hk : PySem.W.keepIn X.K (.ref f) = true) (hb : Binds X.K fd ps ds) (hd : Vals dvs ds) (hx : Passes C X E)
    (hdb : (x == ("__debug__" : Str)) = false := by decide) : PE X (.Call (.Name x p) [] [] pos) (tCall sp dvs E tNil) :=
  ⟨fun pins s σ H Q I h => wpAny_Call_Name_kw (ld_glob I hg hm (PySem.W.callWith_K0 I.kIn hk (run_g (us := []) F hr hc hb hd hx I .nil h)) hdb)⟩
end

/-! ### data whose text is no matter -/
mutual
def fine : Nat → PyData → Bool
  | _, .none => true
  | _, .bool _ => true
  | _, .int i => decide (i.natAbs.log2 < 1900)
  | _, .str x => PyData.strOk x
  | n + 1, .list xs => fineAll n xs
  | n + 1, .tuple xs => fineAll n xs
  | 0, .list _ => false
  | 0, .tuple _ => false
  | _, .dict _ => false
def fineAll : Nat → List PyData → Bool
  | _, [] => true
  | n, x :: xs => fine n x && fineAll n xs
end
mutual
def sz : PyData → Nat
  | .none => 5
  | .bool _ => 5
  | .int _ => 2000
  | .str x => 10 * x.length + 2
  | .list xs => szAll xs + 3
  | .tuple xs => szAll xs + 3
  | .dict _ => 0
def szAll : List PyData → Nat
  | [] => 0
  | x :: xs => sz x + 2 + szAll xs
end
mutual
theorem fine_ok : ∀ (d : PyData) (n : Nat), fine n d = true → d.showable = true ∧ d.hasDict = false ∧ d.depth ≤ n ∧ d.shown.length ≤ sz d
  | .none, n, _ => ⟨rfl, rfl, Nat.zero_le _, by show Str.length (PyData.shown .none) ≤ 5; decide⟩
  | .bool b, n, _ => ⟨rfl, rfl, Nat.zero_le _, by cases b <;> (show Str.length (PyData.shown (.bool _)) ≤ 5; decide)⟩
  | .int i, n, h => by
    have h1 : i.natAbs.log2 < 1900 := by simpa only [fine, decide_eq_true_eq] using h
    refine ⟨by simp only [PyData.showable, decide_eq_true_eq]; omega, rfl, Nat.zero_le _, ?_⟩
    have h2 := int_text_length_le (k := 1900) (by decide) h1
    show (Str.ofString (toString i)).length ≤ 2000
    rw [PySem.ofString_length]
    omega
  | .str x, n, h => by
    have h1 : ∀ c ∈ x.cps.toList, c < 16 ^ 8 := by
      have h2 : x.cps.all (· < 0x110000) = true := by rw [fine] at h; exact h
      rw [← Array.all_toList, List.all_eq_true] at h2
      intro c hc
      have := of_decide_eq_true (h2 c hc)
      omega
    exact ⟨rfl, rfl, Nat.zero_le _, StrLaws.reprText_len x h1⟩
  | .list xs, n + 1, h => by
    obtain ⟨h1, h2, h3, h4⟩ := fineAll_ok xs n (by simpa only [fine] using h)
    refine ⟨by simpa only [PyData.showable] using h1, by simpa only [PyData.hasDict] using h2, by simp only [PyData.depth]; omega, ?_⟩
    have := listText_len_le (PyData.shownAll xs)
    simp only [PyData.shown, sz]
    omega
  | .tuple xs, n + 1, h => by
    obtain ⟨h1, h2, h3, h4⟩ := fineAll_ok xs n (by simpa only [fine] using h)
    refine ⟨by simpa only [PyData.showable] using h1, by simpa only [PyData.hasDict] using h2, by simp only [PyData.depth]; omega, ?_⟩
    have := tupleText_len_le (PyData.shownAll xs)
    simp only [PyData.shown, sz]
    omega
  | .list _, 0, h => by simp [fine] at h
  | .tuple _, 0, h => by simp [fine] at h
  | .dict _, n, h => by cases n <;> simp [fine] at h
theorem fineAll_ok : ∀ (xs : List PyData) (n : Nat), fineAll n xs = true → PyData.showableAll xs = true ∧ PyData.hasDictAll xs = false ∧ PyData.depthAll xs ≤ n ∧ ((PyData.shownAll xs).map (·.length)).sum + 2 * (PyData.shownAll xs).length ≤ szAll xs
  | [], n, _ => ⟨rfl, rfl, Nat.zero_le _, by simp [PyData.shownAll, szAll]⟩
  | x :: xs, n, h => by
    obtain ⟨ha, hb⟩ := Bool.and_eq_true_iff.mp (show (fine n x && fineAll n xs) = true by simpa only [fineAll] using h)
    obtain ⟨a1, a2, a3, a4⟩ := fine_ok x n ha
    obtain ⟨b1, b2, b3, b4⟩ := fineAll_ok xs n hb
    refine ⟨by simp only [PyData.showableAll, a1, b1, Bool.and_true], by simp only [PyData.hasDictAll, a2, b2, Bool.or_false], by simp only [PyData.depthAll]; omega, ?_⟩
    simp only [PyData.shownAll, szAll, List.map_cons, List.sum_cons, List.length_cons]
    omega
end
mutual
theorem fine_can : ∀ (d : PyData) (n : Nat), fine n d = true → d.canLay0 = true
  | .none, _, _ => rfl
  | .bool _, _, _ => rfl
  | .int _, _, _ => rfl
  | .str x, _, h => by rw [fine] at h; rw [PyData.canLay0]; exact h
  | .list xs, n + 1, h => by
    have := fineAll_can xs n (by simpa only [fine] using h)
    simpa only [PyData.canLay0] using this
  | .tuple xs, n + 1, h => by
    have := fineAll_can xs n (by simpa only [fine] using h)
    simpa only [PyData.canLay0] using this
  | .list _, 0, h => by simp [fine] at h
  | .tuple _, 0, h => by simp [fine] at h
  | .dict _, n, h => by cases n <;> simp [fine] at h
theorem fineAll_can : ∀ (xs : List PyData) (n : Nat), fineAll n xs = true → PyData.canLayAll0 xs = true
  | [], _, _ => rfl
  | x :: xs, n, h => by
    obtain ⟨ha, hb⟩ := Bool.and_eq_true_iff.mp (show (fine n x && fineAll n xs) = true by simpa only [fineAll] using h)
    simp only [PyData.canLayAll0, fine_can x n ha, fineAll_can xs n hb, Bool.and_self]
end
theorem fine_shaped {d : PyData} (h : fine 20 d = true) : SeqAt.shaped d = true := by
  unfold SeqAt.shaped
  rw [fine_can d 20 h, Bool.true_and, decide_eq_true_eq]
  have := (fine_ok d 20 h).2.2.1
  omega
/-! no bool in it -/
mutual
def nb : PyData → Bool
  | .bool _ => false
  | .dict _ => false
  | .list xs => nbAll xs
  | .tuple xs => nbAll xs
  | _ => true
def nbAll : List PyData → Bool
  | [] => true
  | x :: xs => nb x && nbAll xs
end
mutual
theorem eqv_nb : ∀ (d e : PyData), nb d = true → nb e = true → PyData.eqv d e = true → d = e
  | .none, .none, _, _, _ => rfl
  | .int i, .int j, _, _, h => by rw [PyData.eqv, beq_iff_eq] at h; rw [h]
  | .str x, .str y, _, _, h => by rw [PyData.eqv, beq_iff_eq] at h; rw [h]
  | .list xs, .list ys, h1, h2, h => by rw [eqvAll_nb xs ys (by simpa only [nb] using h1) (by simpa only [nb] using h2) (by simpa only [PyData.eqv] using h)]
  | .tuple xs, .tuple ys, h1, h2, h => by rw [eqvAll_nb xs ys (by simpa only [nb] using h1) (by simpa only [nb] using h2) (by simpa only [PyData.eqv] using h)]
  | .bool _, _, h1, _, _ => by simp [nb] at h1
  | .dict _, _, h1, _, _ => by simp [nb] at h1
  | .none, .bool _, _, _, h => by simp [PyData.eqv] at h
  | .none, .int _, _, _, h => by simp [PyData.eqv] at h
  | .none, .str _, _, _, h => by simp [PyData.eqv] at h
  | .none, .list _, _, _, h => by simp [PyData.eqv] at h
  | .none, .tuple _, _, _, h => by simp [PyData.eqv] at h
  | .none, .dict _, _, _, h => by simp [PyData.eqv] at h
  | .int _, .none, _, _, h => by simp [PyData.eqv] at h
  | .int _, .bool _, _, h2, _ => by simp [nb] at h2
  | .int _, .str _, _, _, h => by simp [PyData.eqv] at h
  | .int _, .list _, _, _, h => by simp [PyData.eqv] at h
  | .int _, .tuple _, _, _, h => by simp [PyData.eqv] at h
  | .int _, .dict _, _, _, h => by simp [PyData.eqv] at h
  | .str _, .none, _, _, h => by simp [PyData.eqv] at h
  | .str _, .bool _, _, _, h => by simp [PyData.eqv] at h
  | .str _, .int _, _, _, h => by simp [PyData.eqv] at h
  | .str _, .list _, _, _, h => by simp [PyData.eqv] at h
  | .str _, .tuple _, _, _, h => by simp [PyData.eqv] at h
  | .str _, .dict _, _, _, h => by simp [PyData.eqv] at h
  | .list _, .none, _, _, h => by simp [PyData.eqv] at h
  | .list _, .bool _, _, _, h => by simp [PyData.eqv] at h
  | .list _, .int _, _, _, h => by simp [PyData.eqv] at h
  | .list _, .str _, _, _, h => by simp [PyData.eqv] at h
  | .list _, .tuple _, _, _, h => by simp [PyData.eqv] at h
  | .list _, .dict _, _, _, h => by simp [PyData.eqv] at h
  | .tuple _, .none, _, _, h => by simp [PyData.eqv] at h
  | .tuple _, .bool _, _, _, h => by simp [PyData.eqv] at h
  | .tuple _, .int _, _, _, h => by simp [PyData.eqv] at h
  | .tuple _, .str _, _, _, h => by simp [PyData.eqv] at h
  | .tuple _, .list _, _, _, h => by simp [PyData.eqv] at h
  | .tuple _, .dict _, _, _, h => by simp [PyData.eqv] at h
theorem eqvAll_nb : ∀ (xs ys : List PyData), nbAll xs = true → nbAll ys = true → PyData.eqvAll xs ys = true → xs = ys
  | [], [], _, _, _ => rfl
  | [], _ :: _, _, _, h => by simp [PyData.eqvAll] at h
  | _ :: _, [], _, _, h => by simp [PyData.eqvAll] at h
  | x :: xs, y :: ys, h1, h2, h => by
    obtain ⟨a1, a2⟩ := Bool.and_eq_true_iff.mp (show (nb x && nbAll xs) = true by simpa only [nbAll] using h1)
    obtain ⟨b1, b2⟩ := Bool.and_eq_true_iff.mp (show (nb y && nbAll ys) = true by simpa only [nbAll] using h2)
    obtain ⟨c1, c2⟩ := Bool.and_eq_true_iff.mp (show (PyData.eqv x y && PyData.eqvAll xs ys) = true by simpa only [PyData.eqvAll] using h)
    rw [eqv_nb x y a1 b1 c1, eqvAll_nb xs ys a2 b2 c2]
end
theorem eqv_ne {d e : PyData} (h1 : nb d = true) (h2 : nb e = true) (h : d ≠ e) : PyData.eqv d e = false := by
  cases q : PyData.eqv d e with
  | false => rfl
  | true => exact absurd (eqv_nb d e h1 h2 q) h
theorem eqv_same {d : PyData} (h : fine 20 d = true) : PyData.eqv d d = true := SeqAt.eqv_refl _ (fine_can d 20 h)
theorem nbAll_ints : ∀ {ns : List Int}, nbAll (ns.map PyData.int) = true
  | [] => rfl
  | _ :: ns => by
    have := nbAll_ints (ns := ns)
    simp only [List.map_cons, nbAll, nb, this, Bool.and_self]
theorem fineAll_ints {n : Nat} : ∀ {ns : List Int}, (∀ i ∈ ns, i.natAbs.log2 < 1900) → fineAll n (ns.map PyData.int) = true
  | [], _ => by simp only [List.map_nil, fineAll]
  | i :: ns, h => by
    have h1 := h i List.mem_cons_self
    have h2 := fineAll_ints (n := n) (ns := ns) fun j hj => h j (List.mem_cons_of_mem _ hj)
    simp only [List.map_cons, fineAll, fine, h2, Bool.and_true, decide_eq_true_eq]
    exact h1
theorem szAll_ints : ∀ {ns : List Int}, szAll (ns.map PyData.int) = 2002 * ns.length
  | [] => by simp [szAll]
  | i :: ns => by
    have := szAll_ints (ns := ns)
    simp only [List.map_cons, szAll, sz, List.length_cons]
    omega

/-! ### rules -/
section
variable {X : Cx}
/-- a great number: a bound that no number here comes to -/
def BIG : Int := 2 ^ 100000
theorem big_200 : (10 : Int) ^ 200 ≤ BIG := by
  unfold BIG
  exact Int.le_trans (by decide : (10 : Int) ^ 200 ≤ 2 ^ 700) (Int.ofNat_le.mpr (Nat.pow_le_pow_right (by decide) (by decide : 700 ≤ 100000)))
theorem big_log {i : Int} (h : -BIG < i) (h2 : i < BIG) : i.natAbs.log2 < 100000 := by
  have e : i.natAbs < 2 ^ 100000 := by
    unfold BIG at h h2
    generalize hn : (2 : Nat) ^ 100000 = n at *
    have e : ((2 : Int) ^ 100000) = (n : Int) := by rw [← hn, Int.natCast_pow] <;> rfl
    rw [e] at h h2
    omega
  exact PySem.Flt.log2_lt_of (by decide) e
def CMulB (i j : Int) : Prop := (-BIG < i ∧ i < BIG) ∧ (-BIG < j ∧ j < BIG)
def CDivB (_ j : Int) : Prop := 0 < j ∧ j ≤ 10 ^ 200
theorem op_mulB : OpR X (binaryOp .Mult) (rI CMulB fun i j => .int (i * j)) := opI fun i j _ _ _ _ _ hc q => by
  refine mul_int q (CMulW.ok ?_)
  have h1 := big_log hc.1.1 hc.1.2
  have h2 := big_log hc.2.1 hc.2.2
  unfold CMulW
  omega
theorem iop_mulB : OpR X (inplaceOp .Mult) (rI CMulB fun i j => .int (i * j)) := opI fun i j _ _ _ _ _ hc q => by
  refine imul_int q (CMulW.ok ?_)
  have h1 := big_log hc.1.1 hc.1.2
  have h2 := big_log hc.2.1 hc.2.2
  unfold CMulW
  omega
theorem op_divB : OpR X (binaryOp .FloorDiv) (rI CDivB fun i j => .int (i / j)) := opI fun i j _ _ _ _ _ hc q => by
  obtain ⟨h1, h2⟩ := hc
  have e : j.natAbs < 2 ^ 700 := by
    have : (10 : Int) ^ 200 < 2 ^ 700 := by decide
    generalize hn : (2 : Nat) ^ 700 = n at *
    have e : ((2 : Int) ^ 700) = (n : Int) := by rw [← hn, Int.natCast_pow] <;> rfl
    rw [e] at this
    omega
  exact floordiv_int (by omega) (by rw [Int.fdiv_eq_ediv_of_nonneg i (by omega)]; exact q) (.inl (PyProof.noPylong_of_log2 (Nat.lt_trans (PySem.Flt.log2_lt_of (by decide) e) (by decide))))
/-- a power of a great int -/
def CPowW (i j : Int) : Prop := 0 ≤ j ∧ j ≤ 100 ∧ -BIG < i ∧ i < BIG
theorem op_powB : OpR X (binaryOp .Pow) (rI CPowW fun i j => .int (i ^ j.toNat)) := opI fun i j _ _ _ _ _ hc q => by
  obtain ⟨h1, h2, h3, h4⟩ := hc
  refine pow_int h1 ?_ q
  have b : Builtin.Int.intBits i ≤ 100000 := by
    unfold Builtin.Int.intBits
    split
    · omega
    · have := big_log h3 h4
      omega
  have b2 : ((Builtin.Int.intBits i : Nat) : Int) ≤ 100000 := by omega
  calc ((Builtin.Int.intBits i : Nat) : Int) * j ≤ 100000 * j := Int.mul_le_mul_of_nonneg_right b2 h1
    _ ≤ 100000 * 100 := Int.mul_le_mul_of_nonneg_left h2 (by decide)
    _ ≤ 2 ^ 27 := by decide
/-- a power of a small int -/
def CPowC (i j : Int) : Prop := 0 ≤ j ∧ j ≤ 1000 ∧ -(10 ^ 18) < i ∧ i < 10 ^ 18
theorem op_powC : OpR X (binaryOp .Pow) (rI CPowC fun i j => .int (i ^ j.toNat)) := opI fun i j _ _ _ _ _ hc q => pow_int_small hc.1 (by have := hc.2.1; omega) (by have h1 := hc.2.2.1; have h2 := hc.2.2.2; omega) q
/-- a number whose text is no matter -/
def MED : Int := 2 ^ 1900
theorem med_200 : (10 : Int) ^ 200 ≤ MED := by
  unfold MED
  exact Int.le_trans (by decide : (10 : Int) ^ 200 ≤ 2 ^ 700) (Int.ofNat_le.mpr (Nat.pow_le_pow_right (by decide) (by decide : 700 ≤ 1900)))
theorem med_log {i : Int} (h : -MED < i) (h2 : i < MED) : i.natAbs.log2 < 1900 := by
  have e : i.natAbs < 2 ^ 1900 := by
    unfold MED at h h2
    generalize hn : (2 : Nat) ^ 1900 = n at *
    have e : ((2 : Int) ^ 1900) = (n : Int) := by rw [← hn, Int.natCast_pow] <;> rfl
    rw [e] at h h2
    omega
  exact PySem.Flt.log2_lt_of (by decide) e
def rReprI : List V → Hp → VK → Prop := fun xs H Q => ∃ i, xs = [.int i] ∧ (-MED < i ∧ i < MED) ∧ Q (.str (toString i)) H
theorem call_repr_I : CallR X (.builtin "repr") rReprI := by
  intro pins s σ H xs us Q I r h
  obtain ⟨i, rfl, hb, q⟩ := h
  cases r with
  | cons r0 r1 =>
  cases r1
  obtain ⟨t, rfl⟩ := r0
  exact P.repr_of_int (Nat.lt_trans (med_log hb.1 hb.2) (by decide)) ⟨.str _, H, I.tok _, ⟨_, rfl⟩, q⟩
theorem call_str_I : CallR X (.type "str") rReprI := fun pins s σ H xs us Q I r h => call_str_int pins s σ H xs us Q I r (by
  obtain ⟨i, e, hb, q⟩ := h
  exact ⟨i, e, Nat.lt_trans (med_log hb.1 hb.2) (by decide), q⟩)
theorem call_intI : CallR X (.type "int") (fun xs H Q => ∃ i, xs = [.int i] ∧ Q (.int i) H) := fun pins s σ H xs us Q I r h => call_int1 pins s σ H xs us Q I r (.inl h)
/-- a tracked list's, a tracked tuple's item -/
def rIxLT : R2 := fun x y H Q => ∃ p xs i v, x = .ref p ∧ y = .int i ∧ H p = some (.lst xs) ∧ atI xs i = some v ∧ Q v H
def rIxTT : R2 := fun x y H Q => ∃ p xs i v, x = .ref p ∧ y = .int i ∧ H p = some (.tup xs) ∧ atI xs i = some v ∧ Q v H
theorem ix_listT : IxR X rIxLT := fun e1 e2 pins s σ H x y u v Q I rx ry h hs => ix_list e1 e2 pins s σ H x y u v Q I rx ry (by
  obtain ⟨p, xs, i, v, h1, h2, h3, h4, q⟩ := h
  exact ⟨p, xs, i, v, h1, h2, SqL.of h3, h4, q⟩) hs
theorem ix_tupT : IxR X rIxTT := fun e1 e2 pins s σ H x y u v Q I rx ry h hs => ix_tup e1 e2 pins s σ H x y u v Q I rx ry (by
  obtain ⟨p, xs, i, v, h1, h2, h3, h4, q⟩ := h
  exact ⟨p, xs, i, v, h1, h2, SqT.of h3, h4, q⟩) hs
/-- repr of data, no repr under way -/
def rReprD (K : PySem.W.Frag) : List V → Hp → VK → Prop := fun xs H Q =>
  ∃ v d, xs = [v] ∧ Dp K H v d ∧ fine 20 d = true ∧ sz d ≤ 16000000 ∧ Q (.str d.shown) H
/-- a < b < c < d -/
def tChain3 (r r' r'' : R2) (ta tb tc td : TE) : TE := fun σ H Q => ta σ H fun x H1 => tb σ H1 fun y H2 => r x y H2 fun z H3 => ∃ k, z = .bl k ∧
  (if k = true then tc σ H3 fun u H4 => r' y u H4 fun z' H5 => ∃ k', z' = .bl k' ∧ (if k' = true then td σ H5 fun t H6 => r'' u t H6 Q else Q (.bl false) H5) else Q (.bl false) H3)
section
variable {o1 o2 o3 : CmpOp} {q1 q2 q3 : R2} {a b c d : Expr} {ta tb tc td : TE} {pos : Pos}
theorem pe_chain3 (h1 : OpR X (compareOp o1) q1) (h2 : OpR X (compareOp o2) q2) (h3 : OpR X (compareOp o3) q3)
    (ha : PE X a ta) (hb : PE X b tb) (hc : PE X c tc) (hd : PE X d td)
    (hm : lastMarks [o1, o2, o3] [b, c, d] = false := by with_unfolding_all rfl) :
    PE X (.Compare a [o1, o2, o3] [b, c, d] pos) (tChain3 q1 q2 q3 ta tb tc td) := by
  refine ⟨fun pins s σ H Q I h => Compare_chain ?_ hm⟩
  refine thn (ha.run pins s σ H _ I h) ?_
  rintro v s1 ⟨x, H1, I1, rx, g1⟩
  refine chain_link (thn (hb.run pins s1 σ H1 _ I1 g1) ?_)
  rintro u s2 ⟨y, H2, I2, ry, g2⟩
  refine thn (h1 pins s2 σ H2 x y v u _ I2 rx ry g2) ?_
  rintro w s3 ⟨z, H3, I3, rz, k, ez, g3⟩
  subst ez
  cases rz
  refine wpAny_truthy_bool ?_
  cases k with
  | false => exact ite_ff ⟨.bl false, H3, I3, rfl, g3⟩
  | true =>
    refine ite_tt (chain_link (thn (hc.run pins s3 σ H3 _ I3 g3) ?_))
    rintro u' s4 ⟨y', H4, I4, ry', g4⟩
    refine thn (h2 pins s4 σ H4 y y' u u' _ I4 ry ry' g4) ?_
    rintro w' s5 ⟨z', H5, I5, rz', k', ez', g5⟩
    subst ez'
    cases rz'
    refine wpAny_truthy_bool ?_
    cases k' with
    | false => exact ite_ff ⟨.bl false, H5, I5, rfl, g5⟩
    | true =>
      refine ite_tt (chain_last (thn (hd.run pins s5 σ H5 _ I5 g5) ?_))
      rintro u2 s6 ⟨y2, H6, I6, ry2, g6⟩
      exact h3 pins s6 σ H6 y' y2 u' u2 Q I6 ry' ry2 g6
theorem pt_chain3 (h1 : OpR X (compareOp o1) q1) (h2 : OpR X (compareOp o2) q2) (h3 : OpR X (compareOp o3) q3)
    (ha : PE X a ta) (hb : PE X b tb) (hc : PE X c tc) (hd : PE X d td)
    (hm : lastMarks [o1, o2, o3] [b, c, d] = false := by with_unfolding_all rfl) :
    PT X (.Compare a [o1, o2, o3] [b, c, d] pos) (tTest (tChain3 q1 q2 q3 ta tb tc td)) := by
  refine ⟨fun pins s σ H Q I h => isTrue_chain ?_ hm⟩
  refine thn (ha.run pins s σ H _ I h) ?_
  rintro v s1 ⟨x, H1, I1, rx, g1⟩
  refine test_link (thn (hb.run pins s1 σ H1 _ I1 g1) ?_)
  rintro u s2 ⟨y, H2, I2, ry, g2⟩
  refine thn (h1 pins s2 σ H2 x y v u _ I2 rx ry g2) ?_
  rintro w s3 ⟨z, H3, I3, rz, k, ez, g3⟩
  subst ez
  cases rz
  refine wpAny_truthy_bool ?_
  cases k with
  | false =>
    obtain ⟨b, eb, g⟩ := g3
    cases eb
    exact ite_ff ⟨H3, I3, g⟩
  | true =>
    refine ite_tt (test_link (thn (hc.run pins s3 σ H3 _ I3 g3) ?_))
    rintro u' s4 ⟨y', H4, I4, ry', g4⟩
    refine thn (h2 pins s4 σ H4 y y' u u' _ I4 ry ry' g4) ?_
    rintro w' s5 ⟨z', H5, I5, rz', k', ez', g5⟩
    subst ez'
    cases rz'
    refine wpAny_truthy_bool ?_
    cases k' with
    | false =>
      obtain ⟨b, eb, g⟩ := g5
      cases eb
      exact ite_ff ⟨H5, I5, g⟩
    | true =>
      refine ite_tt (test_last (thn (hd.run pins s5 σ H5 _ I5 g5) ?_))
      rintro u2 s6 ⟨y2, H6, I6, ry2, g6⟩
      refine thn (h3 pins s6 σ H6 y' y2 u' u2 _ I6 ry' ry2 g6) ?_
      rintro w2 s7 ⟨z2, H7, I7, rz2, k2, ez2, g7⟩
      subst ez2
      cases rz2
      exact wpAny_truthy_bool ⟨H7, I7, g7⟩
end
theorem call_intB : CallR X (.type "int") (fun xs H Q => ∃ k, xs = [.bl k] ∧ Q (.int (if k then 1 else 0)) H) := fun pins s σ H xs us Q I r h => call_int1 pins s σ H xs us Q I r (.inr h)
def rMin3 : List V → Hp → VK → Prop := fun xs H Q => ∃ i j k, xs = [.int i, .int j, .int k] ∧ Q (.int (min (min i j) k)) H
def rMax3 : List V → Hp → VK → Prop := fun xs H Q => ∃ i j k, xs = [.int i, .int j, .int k] ∧ Q (.int (max (max i j) k)) H
theorem vals3 {x y z : V} {us : List Value} (r : Vals [x, y, z] us) : ∃ u v w, us = [u, v, w] ∧ RelV x u ∧ RelV y v ∧ RelV z w := by
  cases r with
  | cons a r => cases r with
    | cons b r => cases r with
      | cons c r => cases r; exact ⟨_, _, _, rfl, a, b, c⟩
theorem call_min3 (hc : X.calm = true) : CallR X (.builtin "min") rMin3 := by
  intro pins s σ H xs us Q I r h
  obtain ⟨i, j, k, rfl, q⟩ := h
  obtain ⟨u, v, w, rfl, ⟨t, rfl⟩, ⟨t', rfl⟩, ⟨t2, rfl⟩⟩ := vals3 r
  refine PySem.min_three_ints (I.ok.hd hc) fun h' tk kk => ⟨.int (min (min i j) k), H, I.kept kk, ?_, q⟩
  split
  · split
    · exact ⟨_, by rw [show min (min i j) k = k by omega]⟩
    · exact ⟨_, by rw [show min (min i j) k = j by omega]⟩
  · split
    · exact ⟨_, by rw [show min (min i j) k = k by omega]⟩
    · exact ⟨_, by rw [show min (min i j) k = i by omega]⟩
theorem call_max3 (hc : X.calm = true) : CallR X (.builtin "max") rMax3 := by
  intro pins s σ H xs us Q I r h
  obtain ⟨i, j, k, rfl, q⟩ := h
  obtain ⟨u, v, w, rfl, ⟨t, rfl⟩, ⟨t', rfl⟩, ⟨t2, rfl⟩⟩ := vals3 r
  refine PySem.max_three_ints (I.ok.hd hc) fun h' tk kk => ⟨.int (max (max i j) k), H, I.kept kk, ?_, q⟩
  split
  · split
    · exact ⟨_, by rw [show max (max i j) k = k by omega]⟩
    · exact ⟨_, by rw [show max (max i j) k = j by omega]⟩
  · split
    · exact ⟨_, by rw [show max (max i j) k = k by omega]⟩
    · exact ⟨_, by rw [show max (max i j) k = i by omega]⟩
def rLenQ (K : PySem.W.Frag) : List V → Hp → VK → Prop := fun xs H Q => ∃ p ys, xs = [.ref p] ∧ (SqL K H p ys ∨ SqT K H p ys) ∧ Q (.int ys.length) H
theorem call_lenQ : CallR X (.builtin "len") (rLenQ X.K) := call_len_seq
/-- == and != of data -/
def rEqF (K : PySem.W.Frag) : R2 := fun x y H Q => ∃ d e, Dp K H x d ∧ Dp K H y e ∧ fine 20 d = true ∧ fine 20 e = true ∧ Q (.bl (PyData.eqv d e)) H
def rNeF (K : PySem.W.Frag) : R2 := fun x y H Q => ∃ d e, Dp K H x d ∧ Dp K H y e ∧ fine 20 d = true ∧ fine 20 e = true ∧ Q (.bl (!PyData.eqv d e)) H
theorem op_eqF {k : Nat} (hr : Room k X.A) : OpR X (compareOp .Eq) (rEqF X.K) := fun pins s σ H x y v u Q I rx ry h => op_eqD hr.units pins s σ H x y v u Q I rx ry (by
  obtain ⟨d, e, h1, h2, h3, h4, q⟩ := h
  exact ⟨d, e, h1, h2, fine_shaped h3, fine_shaped h4, q⟩)
theorem op_neF {k : Nat} (hr : Room k X.A) : OpR X (compareOp .NotEq) (rNeF X.K) := fun pins s σ H x y v u Q I rx ry h => op_neD hr.units pins s σ H x y v u Q I rx ry (by
  obtain ⟨d, e, h1, h2, h3, h4, q⟩ := h
  exact ⟨d, e, h1, h2, fine_shaped h3, fine_shaped h4, q⟩)
theorem call_repr_D {k : Nat} (hr : Room k X.A) (hc : Clean X.A) : CallR X (.builtin "repr") (rReprD X.K) := by
  intro pins s σ H xs us Q I r h
  obtain ⟨v, d, rfl, hd, hf, hs, q⟩ := h
  obtain ⟨h1, h2, h3, hz0⟩ := fine_ok d 20 hf
  have hz : d.shown.length ≤ sizeLine := by rw [sizeLine_eq]; omega
  cases r with
  | cons r0 r1 =>
  cases r1
  rename_i u
  have hu := hr.units
  obtain ⟨as, rd⟩ := Dp.reads I d v u hd r0
  cases hd with
  | non => cases r0; exact P.repr_of_none ⟨.str _, H, I.tok _, ⟨_, rfl⟩, q⟩
  | bl b =>
    cases r0
    refine P.repr_of_bool ⟨.str _, H, I.tok _, ⟨_, rfl⟩, ?_⟩
    cases b <;> exact q
  | int i =>
    obtain ⟨t, rfl⟩ := r0
    exact P.repr_of_int (by simpa only [PyData.showable, decide_eq_true_eq] using h1) ⟨.str _, H, I.tok _, ⟨_, rfl⟩, q⟩
  | str x =>
    obtain ⟨t, rfl⟩ := r0
    exact P.repr_of_str ⟨.str _, H, I.tok _, ⟨_, rfl⟩, q⟩ hz
  | lst _ _ =>
    cases r0
    exact repr_of_reads' rd h1 (fun z => by rw [h2] at z; cases z) hc (by omega) (fun _ _ z => z) (fun h' u tk kk => ⟨.str _, H, I.kept kk, ⟨_, rfl⟩, q⟩) hz
  | tup _ _ =>
    cases r0
    exact repr_of_reads' rd h1 (fun z => by rw [h2] at z; cases z) hc (by omega) (fun _ _ z => z) (fun h' u tk kk => ⟨.str _, H, I.kept kk, ⟨_, rfl⟩, q⟩) hz
end

/-- (a, b, ..) = a tracked tuple of that length -/
def gTupT (n : Nat) (t : TGs) : TG := fun v σ H Q => ∃ a xs, v = .ref a ∧ H a = some (.tup xs) ∧ xs.length = n ∧ t xs σ H Q
theorem pg_tupT {X : Cx} {pos : Pos} {es : List Expr} {k : Nat} {t : TGs} {n : Nat} (hc : X.calm = true) (h : PGs X es t)
    (hn : (assignEach es X.env).length = n := by rfl) (hst : (assignEach es X.env).findIdx? (·.1) = none := by rfl) : PG X (.Tuple es k pos) (gTupT n t) :=
  ⟨fun pins s σ H v u Q I r hw => (pg_tup hc h hn hst).run pins s σ H v u Q I r (by
    obtain ⟨a, xs, e1, hq, hl, z⟩ := hw
    exact ⟨a, xs, e1, SqT.of hq, hl, z⟩)⟩

/-! ### promises by the number of arguments -/
def sp0 (F : Hp → VK → XK → Prop) : Sp := fun vs H Q E => vs = [] ∧ F H Q E
def sp1 (F : V → Hp → VK → XK → Prop) : Sp := fun vs H Q E => ∃ a, vs = [a] ∧ F a H Q E
def sp2 (F : V → V → Hp → VK → XK → Prop) : Sp := fun vs H Q E => ∃ a b, vs = [a, b] ∧ F a b H Q E
def sp3 (F : V → V → V → Hp → VK → XK → Prop) : Sp := fun vs H Q E => ∃ a b c, vs = [a, b, c] ∧ F a b c H Q E
def sp4 (F : V → V → V → V → Hp → VK → XK → Prop) : Sp := fun vs H Q E => ∃ a b c d, vs = [a, b, c, d] ∧ F a b c d H Q E
def sp5 (F : V → V → V → V → V → Hp → VK → XK → Prop) : Sp := fun vs H Q E => ∃ a b c d e, vs = [a, b, c, d, e] ∧ F a b c d e H Q E
theorem ar0 {F vs H Q E} (h : sp0 F vs H Q E) : vs.length = 0 := by obtain ⟨rfl, _⟩ := h; rfl
theorem ar1 {F vs H Q E} (h : sp1 F vs H Q E) : vs.length = 1 := by obtain ⟨_, rfl, _⟩ := h; rfl
theorem ar2 {F vs H Q E} (h : sp2 F vs H Q E) : vs.length = 2 := by obtain ⟨_, _, rfl, _⟩ := h; rfl
theorem ar3 {F vs H Q E} (h : sp3 F vs H Q E) : vs.length = 3 := by obtain ⟨_, _, _, rfl, _⟩ := h; rfl
theorem ar4 {F vs H Q E} (h : sp4 F vs H Q E) : vs.length = 4 := by obtain ⟨_, _, _, _, rfl, _⟩ := h; rfl
theorem ar5 {F vs H Q E} (h : sp5 F vs H Q E) : vs.length = 5 := by obtain ⟨_, _, _, _, _, rfl, _⟩ := h; rfl

/-! ### what is kept but for one object -/
def Mo (r : Addr) (H H' : Hp) : Prop := ∀ b o, b ≠ r → H b = some o → H' b = some o
theorem Mo.refl (r : Addr) (H : Hp) : Mo r H H := fun _ _ _ h => h
theorem Mo.trans {r : Addr} {H H1 H2 : Hp} (a : Mo r H H1) (b : Mo r H1 H2) : Mo r H H2 := fun c o n h => b c o n (a c o n h)
theorem Mo.ex {r : Addr} {H H1 : Hp} (e : Ex H H1) : Mo r H H1 := fun c o _ h => e c o h
theorem Mo.upd {r : Addr} {H : Hp} {o : HO} : Mo r H (upd H r o) := fun c u n h => by rw [upd_ne n]; exact h
theorem Ex.to_mo {r : Addr} {H H1 H2 : Hp} (e : Ex H H1) (m : Mo r H1 H2) : Mo r H H2 := fun c o n h => m c o n (e c o h)
/-- a new object that is written stays new to what stood before -/
theorem Mo.ex_new {r : Addr} {H H1 H2 : Hp} (e : Ex H H1) (n : H r = none) (m : Mo r H1 H2) : Ex H H2 := fun c o h => m c o (ne_of_none h n) (e c o h)
theorem sq_l {K : PySem.W.Frag} {H : Hp} {a : Addr} {xs : List V} (h : H a = some (.lst xs)) : SqL K H a xs := .inl (.inl h)
theorem sq_t {K : PySem.W.Frag} {H : Hp} {a : Addr} {xs : List V} (h : H a = some (.tup xs)) : SqT K H a xs := .inl (.inl h)

/-! ### new data: what is at addresses of S alone -/
mutual
inductive Rp (H : Hp) (S : Addr → Prop) : V → PyData → Prop where
  | non : Rp H S .non .none
  | bl (b : Bool) : Rp H S (.bl b) (.bool b)
  | int (i : Int) : Rp H S (.int i) (.int i)
  | str (x : Str) : Rp H S (.str x) (.str x)
  | lst {a : Addr} {xs : List V} {ds : List PyData} : S a → H a = some (.lst xs) → RpA H S xs ds → Rp H S (.ref a) (.list ds)
  | tup {a : Addr} {xs : List V} {ds : List PyData} : S a → H a = some (.tup xs) → RpA H S xs ds → Rp H S (.ref a) (.tuple ds)
inductive RpA (H : Hp) (S : Addr → Prop) : List V → List PyData → Prop where
  | nil : RpA H S [] []
  | cons {v : V} {vs : List V} {d : PyData} {ds : List PyData} : Rp H S v d → RpA H S vs ds → RpA H S (v :: vs) (d :: ds)
end
section
variable {H H' : Hp} {S S' : Addr → Prop} {K : PySem.W.Frag}
mutual
theorem Rp.keep (k : ∀ b o, S b → H b = some o → H' b = some o) (s : ∀ b, S b → S' b) : ∀ {d : PyData} {v : V}, Rp H S v d → Rp H' S' v d
  | .none, _, .non => .non
  | .bool _, _, .bl b => .bl b
  | .int _, _, .int i => .int i
  | .str _, _, .str x => .str x
  | .list _, _, .lst m h r => .lst (s _ m) (k _ _ m h) (RpA.keep k s r)
  | .tuple _, _, .tup m h r => .tup (s _ m) (k _ _ m h) (RpA.keep k s r)
theorem RpA.keep (k : ∀ b o, S b → H b = some o → H' b = some o) (s : ∀ b, S b → S' b) : ∀ {ds : List PyData} {vs : List V}, RpA H S vs ds → RpA H' S' vs ds
  | [], _, .nil => .nil
  | _ :: _, _, .cons h r => .cons (Rp.keep k s h) (RpA.keep k s r)
end
mutual
theorem Rp.dp : ∀ {d : PyData} {v : V}, Rp H S v d → Dp K H v d
  | .none, _, .non => .non
  | .bool _, _, .bl b => .bl b
  | .int _, _, .int i => .int i
  | .str _, _, .str x => .str x
  | .list _, _, .lst _ h r => .lst (sq_l h) (RpA.dp r)
  | .tuple _, _, .tup _ h r => .tup (sq_t h) (RpA.dp r)
theorem RpA.dp : ∀ {ds : List PyData} {vs : List V}, RpA H S vs ds → DpAll K H vs ds
  | [], _, .nil => .nil
  | _ :: _, _, .cons h r => .cons (Rp.dp h) (RpA.dp r)
end
mutual
theorem Rp.here : ∀ {d : PyData} {v : V}, Rp H S v d → Rp H (fun b => S b ∧ ∃ o, H b = some o) v d
  | .none, _, .non => .non
  | .bool _, _, .bl b => .bl b
  | .int _, _, .int i => .int i
  | .str _, _, .str x => .str x
  | .list _, _, .lst m h r => .lst ⟨m, _, h⟩ h (RpA.here r)
  | .tuple _, _, .tup m h r => .tup ⟨m, _, h⟩ h (RpA.here r)
theorem RpA.here : ∀ {ds : List PyData} {vs : List V}, RpA H S vs ds → RpA H (fun b => S b ∧ ∃ o, H b = some o) vs ds
  | [], _, .nil => .nil
  | _ :: _, _, .cons h r => .cons (Rp.here h) (RpA.here r)
end
theorem Rp.off {p : Addr} (hp : H p = none) {v : V} {d : PyData} (h : Rp H S v d) : Rp H (fun b => S b ∧ b ≠ p) v d :=
  h.here.keep (fun _ _ _ q => q) fun b ⟨q, o, e⟩ => ⟨q, ne_of_none e hp⟩
theorem RpA.off {p : Addr} (hp : H p = none) {v : List V} {d : List PyData} (h : RpA H S v d) : RpA H (fun b => S b ∧ b ≠ p) v d :=
  h.here.keep (fun _ _ _ q => q) fun b ⟨q, o, e⟩ => ⟨q, ne_of_none e hp⟩
theorem Rp.ex (e : Ex H H') {v : V} {d : PyData} (h : Rp H S v d) : Rp H' S v d := h.keep (fun b o _ q => e b o q) fun _ q => q
theorem RpA.ex (e : Ex H H') {v : List V} {d : List PyData} (h : RpA H S v d) : RpA H' S v d := h.keep (fun b o _ q => e b o q) fun _ q => q
theorem Rp.sub {v : V} {d : PyData} (h : Rp H S v d) (s : ∀ b, S b → S' b) : Rp H S' v d := h.keep (fun _ _ _ q => q) s
theorem RpA.sub {v : List V} {d : List PyData} (h : RpA H S v d) (s : ∀ b, S b → S' b) : RpA H S' v d := h.keep (fun _ _ _ q => q) s
theorem RpA.app : ∀ {xs ys : List V} {ds es : List PyData}, RpA H S xs ds → RpA H S ys es → RpA H S (xs ++ ys) (ds ++ es)
  | _, _, _, _, .nil, r => r
  | _, _, _, _, .cons h t, r => .cons h (RpA.app t r)
theorem RpA.len : ∀ {vs : List V} {ds : List PyData}, RpA H S vs ds → vs.length = ds.length
  | _, _, .nil => rfl
  | _, _, .cons _ r => congrArg Nat.succ (RpA.len r)
theorem RpA.at : ∀ {vs : List V} {ds : List PyData} {i : Nat} {d : PyData}, RpA H S vs ds → ds[i]? = some d → ∃ v, vs[i]? = some v ∧ Rp H S v d
  | _, _, _, _, .nil, e => by simp at e
  | _, _, 0, _, .cons h _, e => by simp at e; subst e; exact ⟨_, rfl, h⟩
  | _, _, i + 1, _, .cons _ r, e => by simpa using RpA.at (i := i) r (by simpa using e)
theorem RpA.at' : ∀ {vs : List V} {ds : List PyData} {i : Nat} {v : V}, RpA H S vs ds → vs[i]? = some v → ∃ d, ds[i]? = some d ∧ Rp H S v d
  | _, _, _, _, .nil, e => by simp at e
  | _, _, 0, _, .cons h _, e => by simp at e; subst e; exact ⟨_, rfl, h⟩
  | _, _, i + 1, _, .cons _ r, e => by simpa using RpA.at' (i := i) r (by simpa using e)
theorem RpA.ints : ∀ {ns : List Int}, RpA H S (ns.map V.int) (ns.map PyData.int)
  | [] => .nil
  | n :: _ => .cons (.int n) RpA.ints
theorem RpA.ints_inv : ∀ {ns : List Int} {vs : List V}, RpA H S vs (ns.map PyData.int) → vs = ns.map V.int
  | [], _, .nil => rfl
  | _ :: _, _, .cons (.int _) r => congrArg _ (RpA.ints_inv r)
/-- a new datum: all of it new to H -/
abbrev New (H : Hp) : Addr → Prop := fun b => H b = none
theorem new_ex (e : Ex H H') : ∀ b, New H' b → New H b := fun _ n => Evl.fresh_back e n
end

/-! ### comprehensions -/
theorem dpa_ex {K : PySem.W.Frag} {H H' : Hp} (e : Ex H H') : ∀ {vs : List V} {ds : List PyData}, DpAll K H vs ds → DpAll K H' vs ds
  | _, _, .nil => .nil
  | _, _, .cons h r => .cons (dp_ex e _ _ h) (dpa_ex e r)
theorem dpa_len {K : PySem.W.Frag} {H : Hp} : ∀ {vs : List V} {ds : List PyData}, DpAll K H vs ds → vs.length = ds.length
  | _, _, .nil => rfl
  | _, _, .cons _ r => congrArg Nat.succ (dpa_len r)
theorem dpa_at {K : PySem.W.Frag} {H : Hp} : ∀ {vs : List V} {ds : List PyData} {i : Nat} {d : PyData}, DpAll K H vs ds → ds[i]? = some d → ∃ v, vs[i]? = some v ∧ Dp K H v d
  | _, _, _, _, .nil, e => by simp at e
  | _, _, 0, _, .cons h _, e => by simp at e; subst e; exact ⟨_, rfl, h⟩
  | _, _, i + 1, _, .cons _ r, e => by simpa using dpa_at (i := i) r (by simpa using e)
theorem dpa_ints {K : PySem.W.Frag} {H : Hp} : ∀ {ns : List Int}, DpAll K H (ns.map V.int) (ns.map PyData.int)
  | [] => .nil
  | n :: _ => .cons (.int n) dpa_ints
section
variable {K : PySem.W.Frag} {σ : L2.St} {H : Hp} {ta : TA} {te tl : TE} {tt : TT} {j : Nat} {vs : List Nat} {Q : VK} {n : Nat} {a : Addr} {xs : List V}
/-- one turn of a comprehension without a test: what is at D grows by what represents d i -/
def LcAt (H : Hp) (D : Addr) (d : Nat → PyData) (i : Nat) (H' : Hp) : Prop :=
  H D = none ∧ Ex H H' ∧ ∃ ys, H' D = some (.lst ys) ∧ RpA H' (fun b => New H b ∧ b ≠ D) ys ((List.range i).map d)
theorem LcAt.start {d : Nat → PyData} {D : Addr} (h : H D = none) : LcAt H D d 0 (upd H D (.lst [])) := ⟨h, exn h, [], upd_same, .nil⟩
theorem lc_step {d : Nat → PyData} {D : Addr} {i : Nat} {H' : Hp} {σ2 : L2.St} (p : LcAt H D d i H') (hi : i < 1000000)
    (he : ∀ H1, Ex H H1 → ∀ R : VK, (∀ v H2, Ex H1 H2 → Rp H2 (New H1) v (d i) → R v H2) → te σ2 H1 R) :
    tYes σ2 H' fun b H3 => if b = true then te σ2 H3 fun y H4 => ∃ acc, H4 D = some (.lst acc) ∧ acc.length < sizeLine ∧ LcAt H D d (i + 1) (upd H4 D (.lst (acc ++ [y]))) else LcAt H D d (i + 1) H3 := by
  obtain ⟨p1, p2, ys, p3, p4⟩ := p
  unfold tYes
  show (if true = true then _ else _)
  rw [if_pos rfl]
  refine he H' p2 _ fun v H2 e2 hv => ?_
  have len : ys.length = i := by rw [p4.len, List.length_map, List.length_range]
  have keep : ∀ (b : Addr) (o : HO), New H b ∧ b ≠ D → H2 b = some o → (upd H2 D (.lst (ys ++ [v]))) b = some o := fun b o m q => by rw [upd_ne m.2]; exact q
  refine ⟨ys, e2 D _ p3, ?_, p1, Mo.ex_new (p2.trans e2) p1 Mo.upd, ys ++ [v], upd_same, ?_⟩
  · rw [len, sizeLine_eq]; omega
  · rw [List.range_succ, List.map_append]
    refine RpA.app ((p4.ex e2).keep keep fun _ q => q) (.cons ?_ .nil)
    exact (hv.sub fun b q => ⟨Evl.fresh_back p2 q, ne_of_none' q p3⟩).keep keep fun _ q => q
where ne_of_none' {H : Hp} {a b : Addr} {o : HO} (q : H b = none) (h : H a = some o) : b ≠ a := fun e => by rw [e, h] at q; cases q
/-- [.. for x in range(n)] -/
theorem lc_rng (d : Nat → PyData) (ha : ∀ R, R [.int (n : Int)] H → ta σ H R) (hn : n ≤ 1000000) (hw : ∀ x, wipe ((wipe σ vs).set j (some x)) vs = wipe σ vs)
    (he : ∀ (i : Nat) H1, i < n → Ex H H1 → ∀ R : VK, (∀ v H2, Ex H1 H2 → Rp H2 (New H1) v (d i) → R v H2) → te ((wipe σ vs).set j (some (.int (i : Int)))) H1 R)
    (k : ∀ v H', Ex H H' → Rp H' (New H) v (.list ((List.range n).map d)) → Q v H') : tLc (iRng1 ta) (gName j) tYes te vs σ H Q := by
  refine ha _ ⟨(n : Int), rfl, by omega, by omega, fun D hD => ?_⟩
  refine lc_range (lo := 0) (n := n) (LcAt H D d) (.start hD) (fun i H' hi p => ?_) (fun H' p => ?_)
  · have e0 : (0 : Int) + (i : Int) = (i : Int) := Int.zero_add _
    show wipe ((wipe σ vs).set j (some (.int ((0 : Int) + (i : Int))))) vs = wipe σ vs ∧ _
    refine ⟨hw _, ?_⟩
    rw [e0]
    exact lc_step p (by omega) (he i · hi)
  · obtain ⟨p1, p2, ys, p3, p4⟩ := p
    exact k _ _ p2 (.lst p1 p3 (p4.sub fun b q => q.1))
theorem lc_rng2 {lo : Int} (d : Nat → PyData) (ha : ∀ R, R [.int lo, .int (lo + (n : Int))] H → ta σ H R) (hn : n ≤ 1000000) (hlo : -1000000 ≤ lo ∧ lo ≤ 1000000) (hw : ∀ x, wipe ((wipe σ vs).set j (some x)) vs = wipe σ vs)
    (he : ∀ (i : Nat) H1, i < n → Ex H H1 → ∀ R : VK, (∀ v H2, Ex H1 H2 → Rp H2 (New H1) v (d i) → R v H2) → te ((wipe σ vs).set j (some (.int (lo + (i : Int))))) H1 R)
    (k : ∀ v H', Ex H H' → Rp H' (New H) v (.list ((List.range n).map d)) → Q v H') : tLc (iRng2 ta) (gName j) tYes te vs σ H Q := by
  refine ha _ ⟨lo, lo + (n : Int), rfl, ⟨by omega, by omega, by omega, by omega⟩, fun D hD => ?_⟩
  have en : (lo + (n : Int) - lo).toNat = n := by omega
  rw [en]
  refine lc_range (lo := lo) (n := n) (LcAt H D d) (.start hD) (fun i H' hi p => ⟨hw _, lc_step p (by omega) (he i · hi)⟩) (fun H' p => ?_)
  obtain ⟨p1, p2, ys, p3, p4⟩ := p
  exact k _ _ p2 (.lst p1 p3 (p4.sub fun b q => q.1))
/-- [.. for x in xs], xs a list that stands -/
theorem lc_lst (d : Nat → PyData) (ha : ∀ R, R (.ref a) H → tl σ H R) (hx : SqL K H a xs) (hn : xs.length ≤ 1000000) (hw : ∀ x, wipe ((wipe σ vs).set j (some x)) vs = wipe σ vs)
    (he : ∀ (i : Nat) x H1, xs[i]? = some x → Ex H H1 → ∀ R : VK, (∀ v H2, Ex H1 H2 → Rp H2 (New H1) v (d i) → R v H2) → te ((wipe σ vs).set j (some x)) H1 R)
    (k : ∀ v H', Ex H H' → Rp H' (New H) v (.list ((List.range xs.length).map d)) → Q v H') : tLc (iList K tl) (gName j) tYes te vs σ H Q := by
  refine ha _ ⟨a, rfl, ⟨xs, hx⟩, fun D hD => ?_⟩
  refine lc_list (xs := xs) (LcAt H D d) (.start hD) (fun i H' _ p => Evl.ex_l p.2.1 hx) (fun i x H' hi p => ⟨hw _, lc_step p ?_ (he i x · hi)⟩) (fun H' p => ?_)
  · have := (List.getElem?_eq_some_iff.mp hi).1; omega
  · obtain ⟨p1, p2, ys, p3, p4⟩ := p
    exact k _ _ p2 (.lst p1 p3 (p4.sub fun b q => q.1))
end

section
variable {K : PySem.W.Frag} {σ : L2.St} {H : Hp} {ta : TA} {te tl : TE} {tt : TT} {j : Nat} {vs : List Nat} {Q : VK} {n : Nat} {a : Addr} {xs : List V}
/-- with a test -/
def LcAtF (H : Hp) (D : Addr) (f : Nat → Bool) (d : Nat → PyData) (i : Nat) (H' : Hp) : Prop :=
  H D = none ∧ Ex H H' ∧ ∃ ys, H' D = some (.lst ys) ∧ RpA H' (fun b => New H b ∧ b ≠ D) ys (((List.range i).filter f).map d)
theorem LcAtF.start {f : Nat → Bool} {d : Nat → PyData} {D : Addr} (h : H D = none) : LcAtF H D f d 0 (upd H D (.lst [])) := ⟨h, exn h, [], upd_same, .nil⟩
theorem lc_stepF {f : Nat → Bool} {d : Nat → PyData} {D : Addr} {i : Nat} {H' : Hp} {σ2 : L2.St} (p : LcAtF H D f d i H') (hi : i < 1000000)
    (ht : ∀ H1, Ex H H1 → ∀ R : Bool → Hp → Prop, (∀ H2, Ex H1 H2 → R (f i) H2) → tt σ2 H1 R)
    (he : f i = true → ∀ H1, Ex H H1 → ∀ R : VK, (∀ v H2, Ex H1 H2 → Rp H2 (New H1) v (d i) → R v H2) → te σ2 H1 R) :
    tt σ2 H' fun b H3 => if b = true then te σ2 H3 fun y H4 => ∃ acc, H4 D = some (.lst acc) ∧ acc.length < sizeLine ∧ LcAtF H D f d (i + 1) (upd H4 D (.lst (acc ++ [y]))) else LcAtF H D f d (i + 1) H3 := by
  obtain ⟨p1, p2, ys, p3, p4⟩ := p
  refine ht H' p2 _ fun H3 e3 => ?_
  cases hf : f i with
  | false =>
    refine iteF ⟨p1, p2.trans e3, ys, e3 D _ p3, ?_⟩
    rw [List.range_succ, List.filter_append, List.filter_cons_of_neg (by simp [hf]), List.filter_nil, List.append_nil]
    exact p4.ex e3
  | true =>
    show (if true = true then _ else _)
    rw [if_pos rfl]
    refine he hf H3 (p2.trans e3) _ fun v H2 e2 hv => ?_
    have len : ys.length ≤ i := by
      rw [p4.len, List.length_map]
      have := List.length_filter_le f (List.range i)
      rw [List.length_range] at this
      exact this
    have p5 := e3 D _ p3
    have keep : ∀ (b : Addr) (o : HO), New H b ∧ b ≠ D → H2 b = some o → (upd H2 D (.lst (ys ++ [v]))) b = some o := fun b o m q => by rw [upd_ne m.2]; exact q
    refine ⟨ys, e2 D _ p5, ?_, p1, Mo.ex_new ((p2.trans e3).trans e2) p1 Mo.upd, ys ++ [v], upd_same, ?_⟩
    · rw [sizeLine_eq]; omega
    · rw [List.range_succ, List.filter_append, List.filter_cons_of_pos hf, List.filter_nil, List.map_append]
      refine RpA.app (((p4.ex e3).ex e2).keep keep fun _ q => q) (.cons ?_ .nil)
      exact (hv.sub fun b q => ⟨Evl.fresh_back (p2.trans e3) q, lc_step.ne_of_none' q p5⟩).keep keep fun _ q => q
theorem lc_rng2F {lo : Int} (f : Nat → Bool) (d : Nat → PyData) (ha : ∀ R, R [.int lo, .int (lo + (n : Int))] H → ta σ H R) (hn : n ≤ 1000000) (hlo : -1000000 ≤ lo ∧ lo ≤ 1000000) (hw : ∀ x, wipe ((wipe σ vs).set j (some x)) vs = wipe σ vs)
    (ht : ∀ (i : Nat) H1, i < n → Ex H H1 → ∀ R : Bool → Hp → Prop, (∀ H2, Ex H1 H2 → R (f i) H2) → tt ((wipe σ vs).set j (some (.int (lo + (i : Int))))) H1 R)
    (he : ∀ (i : Nat) H1, i < n → f i = true → Ex H H1 → ∀ R : VK, (∀ v H2, Ex H1 H2 → Rp H2 (New H1) v (d i) → R v H2) → te ((wipe σ vs).set j (some (.int (lo + (i : Int))))) H1 R)
    (k : ∀ v H', Ex H H' → Rp H' (New H) v (.list (((List.range n).filter f).map d)) → Q v H') : tLc (iRng2 ta) (gName j) tt te vs σ H Q := by
  refine ha _ ⟨lo, lo + (n : Int), rfl, ⟨by omega, by omega, by omega, by omega⟩, fun D hD => ?_⟩
  have en : (lo + (n : Int) - lo).toNat = n := by omega
  rw [en]
  refine lc_range (lo := lo) (n := n) (LcAtF H D f d) (.start hD) (fun i H' hi p => ⟨hw _, lc_stepF p (by omega) (fun H1 => ht i H1 hi) (fun hf H1 => he i H1 hi hf)⟩) (fun H' p => ?_)
  obtain ⟨p1, p2, ys, p3, p4⟩ := p
  exact k _ _ p2 (.lst p1 p3 (p4.sub fun b q => q.1))
theorem lc_lstF (f : Nat → Bool) (d : Nat → PyData) (ha : ∀ R, R (.ref a) H → tl σ H R) (hx : SqL K H a xs) (hn : xs.length ≤ 1000000) (hw : ∀ x, wipe ((wipe σ vs).set j (some x)) vs = wipe σ vs)
    (ht : ∀ (i : Nat) x H1, xs[i]? = some x → Ex H H1 → ∀ R : Bool → Hp → Prop, (∀ H2, Ex H1 H2 → R (f i) H2) → tt ((wipe σ vs).set j (some x)) H1 R)
    (he : ∀ (i : Nat) x H1, xs[i]? = some x → f i = true → Ex H H1 → ∀ R : VK, (∀ v H2, Ex H1 H2 → Rp H2 (New H1) v (d i) → R v H2) → te ((wipe σ vs).set j (some x)) H1 R)
    (k : ∀ v H', Ex H H' → Rp H' (New H) v (.list (((List.range xs.length).filter f).map d)) → Q v H') : tLc (iList K tl) (gName j) tt te vs σ H Q := by
  refine ha _ ⟨a, rfl, ⟨xs, hx⟩, fun D hD => ?_⟩
  refine lc_list (xs := xs) (LcAtF H D f d) (.start hD) (fun i H' _ p => Evl.ex_l p.2.1 hx) (fun i x H' hi p => ⟨hw _, lc_stepF p ?_ (fun H1 => ht i x H1 hi) (fun hf H1 => he i x H1 hi hf)⟩) (fun H' p => ?_)
  · have := (List.getElem?_eq_some_iff.mp hi).1; omega
  · obtain ⟨p1, p2, ys, p3, p4⟩ := p
    exact k _ _ p2 (.lst p1 p3 (p4.sub fun b q => q.1))
end

theorem cut_to (xs : List V) (m : Nat) : cutV xs none (some (m : Int)) = xs.take m := by
  unfold cutV
  have e : HT.sIx xs.length xs.length (some (m : Int)) = min m xs.length := HT.sIx_nat xs.length xs.length m
  rw [e, HT.sIx_none]
  show List.take (min m xs.length - 0) xs = _
  rw [Nat.sub_zero, ← List.take_take, List.take_length]
theorem cut_1 (xs : List V) : cutV xs (some 1) none = xs.drop 1 := by
  unfold cutV
  have e : HT.sIx xs.length 0 (some 1) = min 1 xs.length := HT.sIx_nat xs.length 0 1
  rw [e, HT.sIx_none]
  cases xs with
  | nil => rfl
  | cons x r =>
    have e2 : min 1 (x :: r).length = 1 := by rw [List.length_cons]; omega
    rw [e2]
    show List.take ((x :: r).length - 1) r = r
    rw [List.length_cons, Nat.add_sub_cancel, List.take_length]
/-! ### comprehensions over a range, with what stands between the turns -/
section
variable {K : PySem.W.Frag} {σ : L2.St} {H : Hp} {ta : TA} {te tl : TE} {tt : TT} {j : Nat} {vs : List Nat} {Q : VK} {n : Nat} {a : Addr} {xs : List V}
/-- ints, each with a word P; I i is kept by what does not touch old objects -/
theorem lc_rngI (I : Nat → Hp → Prop) (P : Nat → Int → Prop) (ha : ∀ R, R [.int (n : Int)] H → ta σ H R) (hn : n ≤ 1000000) (hw : ∀ x, wipe ((wipe σ vs).set j (some x)) vs = wipe σ vs)
    (h0 : I 0 H) (hI : ∀ i p H1 H2, I i H1 → H p = none → Mo p H1 H2 → I i H2)
    (he : ∀ (i : Nat) p H1, i < n → I i H1 → H p = none → (∃ o, H1 p = some o) → ∀ R : VK, (∀ x H2, I (i + 1) H2 → P i x → H2 p = H1 p → R (.int x) H2) → te ((wipe σ vs).set j (some (.int (i : Int)))) H1 R)
    (k : ∀ (ns : List Int) p H', ns.length = n → (∀ i x, ns[i]? = some x → P i x) → I n H' → H p = none → H' p = some (.lst (ns.map V.int)) → Q (.ref p) H') : tLc (iRng1 ta) (gName j) tYes te vs σ H Q := by
  refine ha _ ⟨(n : Int), rfl, by omega, by omega, fun D hD => ?_⟩
  refine lc_range (lo := 0) (n := n) (fun i H' => I i H' ∧ ∃ ns : List Int, ns.length = i ∧ (∀ i x, ns[i]? = some x → P i x) ∧ H' D = some (.lst (ns.map V.int)))
    ⟨hI 0 D H _ h0 hD Mo.upd, [], rfl, by simp, upd_same⟩ (fun i H' hi p => ?_) (fun H' p => ?_)
  · obtain ⟨i0, ns, len, hp, hd⟩ := p
    have e0 : (0 : Int) + (i : Int) = (i : Int) := Int.zero_add _
    show wipe ((wipe σ vs).set j (some (.int ((0 : Int) + (i : Int))))) vs = wipe σ vs ∧ _
    refine ⟨hw _, ?_⟩
    rw [e0]
    unfold tYes
    show (if true = true then _ else _)
    rw [if_pos rfl]
    refine he i D H' hi i0 hD ⟨_, hd⟩ _ fun x H2 i2 px ed => ?_
    refine ⟨ns.map V.int, by rw [ed, hd], ?_, hI _ D H2 _ i2 hD Mo.upd, ns ++ [x], by simp [len], ?_, ?_⟩
    · rw [List.length_map, len, sizeLine_eq]; omega
    · intro m y hm
      rw [List.getElem?_append] at hm
      split at hm
      · exact hp m y hm
      · rename_i hl
        have e : m = i := by
          rcases Nat.lt_or_ge (m - ns.length) 1 with h | h
          · omega
          · rw [List.getElem?_eq_none (by simpa using h)] at hm; cases hm
        subst e
        rw [len, Nat.sub_self] at hm
        simp at hm
        subst hm
        exact px
    · rw [upd_same, List.map_append]; rfl
  · obtain ⟨i0, ns, len, hp, hd⟩ := p
    exact k ns D H' len hp i0 hD hd
end
/-! ### two displays of the same -/
theorem neF_same {K : PySem.W.Frag} {H : Hp} {p q : Addr} {xs : List V} {ds : List PyData} {A B : Prop} (h1 : H p = some (.lst xs)) (h2 : H q = some (.lst xs)) (hd : DpAll K H xs ds) (hf : fine 20 (.list ds) = true) (b : B) :
    ∃ d, Dp K H (.ref p) d ∧ ∃ e, Dp K H (.ref q) e ∧ fine 20 d = true ∧ fine 20 e = true ∧ if d.eqv e = false then A else B :=
  ⟨_, .lst (sq_l h1) hd, _, .lst (sq_l h2) hd, hf, hf, by rw [eqv_same hf, if_neg (by decide)]; exact b⟩
theorem eqF_same {K : PySem.W.Frag} {H : Hp} {p q : Addr} {xs : List V} {ds : List PyData} {Q : VK} (h1 : H p = some (.lst xs)) (h2 : H q = some (.lst xs)) (hd : DpAll K H xs ds) (hf : fine 20 (.list ds) = true) (b : Q (.bl true) H) :
    ∃ d, Dp K H (.ref p) d ∧ ∃ e, Dp K H (.ref q) e ∧ fine 20 d = true ∧ fine 20 e = true ∧ Q (.bl (d.eqv e)) H :=
  ⟨_, .lst (sq_l h1) hd, _, .lst (sq_l h2) hd, hf, hf, by rw [eqv_same hf]; exact b⟩

theorem tyV_list {K : PySem.W.Frag} {p : Addr} {H : Hp} : tyV K "list" (.ref p) H = ∃ xs, SqL K H p xs := by
  unfold tyV
  simp
theorem Rp.ints {H : Hp} {S : Addr → Prop} {v : V} {ns : List Int} (h : Rp H S v (.list (ns.map PyData.int))) : ∃ a, v = .ref a ∧ S a ∧ H a = some (.lst (ns.map V.int)) := by
  cases h with
  | lst m e r => exact ⟨_, rfl, m, by rw [e, r.ints_inv]⟩

/-! ### loops -/
section
variable {K : PySem.W.Frag} {σ : L2.St} {H : Hp} {ta : TA} {tl : TE} {tb : TS} {g : TG} {j : Nat} {D : Ends} {a : Addr} {xs : List V}
theorem for_rng2 {lo hi : Int} (n : Nat) (ha : ∀ R, R [.int lo, .int hi] H → ta σ H R) (hn : (hi - lo).toNat = n) (hb : -(2 ^ 60) ≤ lo ∧ lo ≤ 2 ^ 60 ∧ -(2 ^ 60) ≤ hi ∧ hi ≤ 2 ^ 60)
    (Pv : Nat → L2.St → Hp → Prop) (h0 : Pv 0 σ H) (hd : ∀ σ H, Pv n σ H → D.nx σ H)
    (hs : ∀ (i : Nat) σ H, i < n → Pv i σ H → tb { D with nx := Pv (i + 1), ct := Pv (i + 1), bk := D.nx } (σ.set j (some (.int (lo + (i : Int))))) H) : tFor (iRng2 ta) (gName j) tb D σ H := by
  refine ha _ ⟨lo, hi, rfl, ⟨by omega, by omega, by omega, by omega⟩, ?_⟩
  rw [hn]
  exact for_range Pv h0 hs hd
theorem for_rng1 {hi : Int} (n : Nat) (ha : ∀ R, R [.int hi] H → ta σ H R) (hn : hi.toNat = n) (hb : -(2 ^ 60) ≤ hi ∧ hi ≤ 2 ^ 60)
    (Pv : Nat → L2.St → Hp → Prop) (h0 : Pv 0 σ H) (hd : ∀ σ H, Pv n σ H → D.nx σ H)
    (hs : ∀ (i : Nat) σ H, i < n → Pv i σ H → tb { D with nx := Pv (i + 1), ct := Pv (i + 1), bk := D.nx } (σ.set j (some (.int (i : Int)))) H) : tFor (iRng1 ta) (gName j) tb D σ H := by
  refine ha _ ⟨hi, rfl, by omega, by omega, ?_⟩
  rw [hn]
  refine for_range (lo := 0) Pv h0 (fun i σ H hi p => ?_) hd
  have e0 : (0 : Int) + (i : Int) = (i : Int) := Int.zero_add _
  show tb _ (σ.set j (some (.int ((0 : Int) + (i : Int))))) H
  rw [e0]
  exact hs i σ H hi p
theorem for_lst (ha : ∀ R, R (.ref a) H → tl σ H R) (hx : SqL K H a xs) (Pv : Nat → L2.St → Hp → Prop) (h0 : Pv 0 σ H) (hl : ∀ i σ' H', i ≤ xs.length → Pv i σ' H' → SqL K H' a xs) (hd : ∀ σ H, Pv xs.length σ H → D.nx σ H)
    (hs : ∀ (i : Nat) x σ H, xs[i]? = some x → Pv i σ H → g x σ H fun σ2 H2 => tb { D with nx := Pv (i + 1), ct := Pv (i + 1), bk := D.nx } σ2 H2) : tFor (iList K tl) g tb D σ H :=
  ha _ ⟨a, rfl, ⟨xs, hx⟩, for_list Pv h0 hl hs hd⟩
theorem for_tupl (ha : ∀ R, R (.ref a) H → tl σ H R) (hx : SqT K H a xs) (Pv : Nat → L2.St → Hp → Prop) (h0 : Pv 0 σ H) (hl : ∀ i σ' H', i ≤ xs.length → Pv i σ' H' → SqT K H' a xs) (hd : ∀ σ H, Pv xs.length σ H → D.nx σ H)
    (hs : ∀ (i : Nat) x σ H, xs[i]? = some x → Pv i σ H → g x σ H fun σ2 H2 => tb { D with nx := Pv (i + 1), ct := Pv (i + 1), bk := D.nx } σ2 H2) : tFor (iTup K tl) g tb D σ H :=
  ha _ ⟨a, rfl, ⟨xs, hx⟩, for_tup Pv h0 hl hs hd⟩
end

/-! loops whose walked thing is reckoned first: simp only [tFor_tup], walk, then forT_in -/
section
variable {K : PySem.W.Frag} {σ : L2.St} {H : Hp} {ta : TA} {tl : TE} {tb : TS} {g : TG} {j : Nat} {D : Ends} {a : Addr} {xs : List V}
def ForI (J : Addr → It) (S : Hp → Addr → Prop) (g : TG) (tb : TS) (D : Ends) (σ : L2.St) (x : V) (H1 : Hp) : Prop := ∃ a, x = .ref a ∧ S H1 a ∧ ∃ W : Nat → Nat → L2.St → Hp → Prop, (∃ m, W 0 m σ H1) ∧ ∀ i m σ H, W i m σ H →
  ((J a).stop i H ∧ D.nx σ H) ∨ ((J a).go i H ∧ ∃ N : L2.St → Hp → Prop, (∀ σ' H', N σ' H' → ∃ m', m' < m ∧ W (i + 1) m' σ' H') ∧ ∀ x H', (J a).yld i H x H' → g x σ H' fun σ2 H2 => tb { D with nx := N, ct := N, bk := D.nx } σ2 H2)
theorem tFor_tup : tFor (iTup K tl) g tb D σ H = tl σ H (ForI (Itt K) (fun H a => ∃ xs, SqT K H a xs) g tb D σ) := rfl
theorem tFor_lst : tFor (iList K tl) g tb D σ H = tl σ H (ForI (Itl K) (fun H a => ∃ xs, SqL K H a xs) g tb D σ) := rfl
theorem forT_in (hx : SqT K H a xs) (Pv : Nat → L2.St → Hp → Prop) (h0 : Pv 0 σ H) (hl : ∀ i σ' H', i ≤ xs.length → Pv i σ' H' → SqT K H' a xs) (hd : ∀ σ H, Pv xs.length σ H → D.nx σ H)
    (hs : ∀ (i : Nat) x σ H, xs[i]? = some x → Pv i σ H → g x σ H fun σ2 H2 => tb { D with nx := Pv (i + 1), ct := Pv (i + 1), bk := D.nx } σ2 H2) : ForI (Itt K) (fun H a => ∃ xs, SqT K H a xs) g tb D σ (.ref a) H :=
  ⟨a, rfl, ⟨xs, hx⟩, for_tup Pv h0 hl hs hd⟩
theorem forL_in (hx : SqL K H a xs) (Pv : Nat → L2.St → Hp → Prop) (h0 : Pv 0 σ H) (hl : ∀ i σ' H', i ≤ xs.length → Pv i σ' H' → SqL K H' a xs) (hd : ∀ σ H, Pv xs.length σ H → D.nx σ H)
    (hs : ∀ (i : Nat) x σ H, xs[i]? = some x → Pv i σ H → g x σ H fun σ2 H2 => tb { D with nx := Pv (i + 1), ct := Pv (i + 1), bk := D.nx } σ2 H2) : ForI (Itl K) (fun H a => ∃ xs, SqL K H a xs) g tb D σ (.ref a) H :=
  ⟨a, rfl, ⟨xs, hx⟩, for_list Pv h0 hl hs hd⟩
end

/-! comprehensions whose walked thing is reckoned first -/
section
variable {K : PySem.W.Frag} {σ : L2.St} {H : Hp} {te tl : TE} {tt : TT} {g : TG} {j : Nat} {vs : List Nat} {Q : VK} {a : Addr} {xs : List V}
def LcI (J : Addr → It) (S : Hp → Addr → Prop) (g : TG) (tt : TT) (te : TE) (vs : List Nat) (σ : L2.St) (Q : VK) (x : V) (H1 : Hp) : Prop := ∃ a, x = .ref a ∧ S H1 a ∧ ∀ D, H1 D = none → ∃ W : Nat → Nat → Hp → Prop, (∃ m, W 0 m (upd H1 D (.lst []))) ∧ ∀ i m H, W i m H →
  ((J a).stop i H ∧ Q (.ref D) H) ∨ ((J a).go i H ∧ ∃ Nx : Hp → Prop, (∀ H', Nx H' → ∃ m', m' < m ∧ W (i + 1) m' H') ∧ ∀ x H', (J a).yld i H x H' → g x (wipe σ vs) H' fun σ2 H2 => wipe σ2 vs = wipe σ vs ∧ tt σ2 H2 fun b H3 =>
    if b = true then te σ2 H3 fun y H4 => ∃ acc, H4 D = some (.lst acc) ∧ acc.length < sizeLine ∧ Nx (upd H4 D (.lst (acc ++ [y]))) else Nx H3)
theorem tLc_tup : tLc (iTup K tl) g tt te vs σ H Q = tl σ H (LcI (Itt K) (fun H a => ∃ xs, SqT K H a xs) g tt te vs σ Q) := rfl
theorem tLc_lst : tLc (iList K tl) g tt te vs σ H Q = tl σ H (LcI (Itl K) (fun H a => ∃ xs, SqL K H a xs) g tt te vs σ Q) := rfl
theorem lcT_in (f : Nat → Bool) (d : Nat → PyData) (hx : SqT K H a xs) (hn : xs.length ≤ 1000000) (hw : ∀ x, wipe ((wipe σ vs).set j (some x)) vs = wipe σ vs)
    (ht : ∀ (i : Nat) x H1, xs[i]? = some x → Ex H H1 → ∀ R : Bool → Hp → Prop, (∀ H2, Ex H1 H2 → R (f i) H2) → tt ((wipe σ vs).set j (some x)) H1 R)
    (he : ∀ (i : Nat) x H1, xs[i]? = some x → f i = true → Ex H H1 → ∀ R : VK, (∀ v H2, Ex H1 H2 → Rp H2 (New H1) v (d i) → R v H2) → te ((wipe σ vs).set j (some x)) H1 R)
    (k : ∀ v H', Ex H H' → Rp H' (New H) v (.list (((List.range xs.length).filter f).map d)) → Q v H') : LcI (Itt K) (fun H a => ∃ xs, SqT K H a xs) (gName j) tt te vs σ Q (.ref a) H := by
  refine ⟨a, rfl, ⟨xs, hx⟩, fun D hD => ?_⟩
  refine lc_tup (xs := xs) (LcAtF H D f d) (.start hD) (fun i H' _ p => Evl.ex_t p.2.1 hx) (fun i x H' hi p => ⟨hw _, lc_stepF p ?_ (fun H1 => ht i x H1 hi) (fun hf H1 => he i x H1 hi hf)⟩) (fun H' p => ?_)
  · have := (List.getElem?_eq_some_iff.mp hi).1; omega
  · obtain ⟨p1, p2, ys, p3, p4⟩ := p
    exact k _ _ p2 (.lst p1 p3 (p4.sub fun b q => q.1))
theorem lcL_in (f : Nat → Bool) (d : Nat → PyData) (hx : SqL K H a xs) (hn : xs.length ≤ 1000000) (hw : ∀ x, wipe ((wipe σ vs).set j (some x)) vs = wipe σ vs)
    (ht : ∀ (i : Nat) x H1, xs[i]? = some x → Ex H H1 → ∀ R : Bool → Hp → Prop, (∀ H2, Ex H1 H2 → R (f i) H2) → tt ((wipe σ vs).set j (some x)) H1 R)
    (he : ∀ (i : Nat) x H1, xs[i]? = some x → f i = true → Ex H H1 → ∀ R : VK, (∀ v H2, Ex H1 H2 → Rp H2 (New H1) v (d i) → R v H2) → te ((wipe σ vs).set j (some x)) H1 R)
    (k : ∀ v H', Ex H H' → Rp H' (New H) v (.list (((List.range xs.length).filter f).map d)) → Q v H') : LcI (Itl K) (fun H a => ∃ xs, SqL K H a xs) (gName j) tt te vs σ Q (.ref a) H := by
  refine ⟨a, rfl, ⟨xs, hx⟩, fun D hD => ?_⟩
  refine lc_list (xs := xs) (LcAtF H D f d) (.start hD) (fun i H' _ p => Evl.ex_l p.2.1 hx) (fun i x H' hi p => ⟨hw _, lc_stepF p ?_ (fun H1 => ht i x H1 hi) (fun hf H1 => he i x H1 hi hf)⟩) (fun H' p => ?_)
  · have := (List.getElem?_eq_some_iff.mp hi).1; omega
  · obtain ⟨p1, p2, ys, p3, p4⟩ := p
    exact k _ _ p2 (.lst p1 p3 (p4.sub fun b q => q.1))
end

/-! the cells of a script: the first ones, and a zero cell -/
section
variable {K : PySem.W.Frag} {σ : L2.St} {H : Hp} {tb : TS} {g : TG} {D : Ends} {S : Addr} {ns : List Int}
theorem for_cells {m : Int} (hσ : σ[0]? = some (some (.ref S))) (hS : SqL K H S (ns.map V.int)) (hl : ns.length ≤ 63) (Pv : L2.St → Hp → Prop) (h0 : ∀ H0, Ex H H0 → Pv σ H0)
    (hd : ∀ H0, Ex H H0 → ∀ σ' H', Ex H0 H' → Pv σ' H' → D.nx σ' H')
    (hs : ∀ H0, Ex H H0 → ∀ (x : Int) σ' H', Ex H0 H' → Pv σ' H' → g (.int x) σ' H' fun σ2 H2 => tb { D with nx := fun σ2 H2 => Ex H0 H2 ∧ Pv σ2 H2, ct := fun σ2 H2 => Ex H0 H2 ∧ Pv σ2 H2, bk := D.nx } σ2 H2) :
    tFor (iList K (tOp rCat (tSl (rSlL K) (tVar 0) tNoPart (tPart (tC (.int m)))) (tLst (tCons (tC (.int 0)) tNil)))) g tb D σ H := by
  have main : ∀ (p p2 p3 : Addr) (cs : List V), H p = none → upd H p (.lst cs) p2 = none → upd (upd H p (.lst cs)) p2 (.lst [.int 0]) p3 = none → cs = cutV (ns.map V.int) none (some m) →
      ForI (Itl K) (fun H a => ∃ xs, SqL K H a xs) g tb D σ (.ref p3) (upd (upd (upd H p (.lst cs)) p2 (.lst [.int 0])) p3 (.lst (cs ++ [.int 0]))) := by
    rintro p p2 p3 cs hp hp2 hp3 hc
    obtain ⟨ms, hm⟩ : ∃ ms : List Int, cs ++ [V.int 0] = ms.map V.int := by
      subst hc
      unfold cutV
      refine ⟨(ns.drop (HT.sIx (ns.map V.int).length 0 none)).take (HT.sIx (ns.map V.int).length (ns.map V.int).length (some m) - HT.sIx (ns.map V.int).length 0 none) ++ [0], ?_⟩
      rw [List.map_append, List.map_take, List.map_drop]
      rfl
    rw [hm]
    have e := ((exn (o := .lst cs) hp).trans (exn (o := .lst [V.int 0]) hp2)).trans (exn (o := .lst (ms.map V.int)) hp3)
    have hL : ∀ H', Ex (upd (upd (upd H p (.lst cs)) p2 (.lst [.int 0])) p3 (.lst (ms.map V.int))) H' → SqL K H' p3 (ms.map V.int) := fun H' e => Evl.ex_l e (sq_l upd_same)
    generalize upd (upd (upd H p (.lst cs)) p2 (.lst [.int 0])) p3 (.lst (ms.map V.int)) = H0 at *
    refine forL_in (hL H0 (.refl _)) (fun _ σ' H' => Ex H0 H' ∧ Pv σ' H') ⟨.refl _, h0 H0 e⟩ (fun i σ' H' _ h => hL H' h.1) (fun σ' H' h => hd H0 e σ' H' h.1 h.2) fun i x σ' H' hx h => ?_
    rw [List.getElem?_map] at hx
    obtain ⟨y, _, rfl⟩ := Option.map_eq_some_iff.mp hx
    exact hs H0 e y σ' H' h.1 h.2
  simp only [tFor_lst]
  refine ⟨_, hσ, m, rfl, S, _, rfl, hS, ?_⟩
  intro p hp
  simp only [tLst, tCons, tC, tNil, rCat]
  refine ⟨by rw [sizeLine_eq]; decide, ?_⟩
  intro p2 hp2
  exact ⟨p, p2, _, _, rfl, rfl, exn hp2 _ _ upd_same, upd_same, by
    have := cutV_length (ns.map V.int) none (some m)
    rw [List.length_map] at this
    rw [sizeLine_eq]
    show _ + 1 ≤ _
    omega, fun p3 hp3 => main p p2 p3 _ hp hp2 hp3 rfl⟩
end

/-! comprehensions over any walked thing, a turn at a time -/
section
variable {K : PySem.W.Frag} {σ : L2.St} {H : Hp} {ta : TA} {te : TE} {tt : TT} {g : TG} {vs : List Nat} {Q : VK} {a : Addr} {xs : List V} {J : It} {n : Nat} {G : Hp → Prop} {Y : Nat → Hp → V → Hp → Prop}
theorem LcAtF.no {f : Nat → Bool} {d : Nat → PyData} {D : Addr} {i : Nat} {H' H2 : Hp} (p : LcAtF H D f d i H') (hf : f i = false) (e : Ex H' H2) : LcAtF H D f d (i + 1) H2 := by
  obtain ⟨p1, p2, ys, p3, p4⟩ := p
  refine ⟨p1, p2.trans e, ys, e D _ p3, ?_⟩
  rw [List.range_succ, List.filter_append, List.filter_cons_of_neg (by simp [hf]), List.filter_nil, List.append_nil]
  exact p4.ex e
theorem LcAtF.yes {f : Nat → Bool} {d : Nat → PyData} {D : Addr} {i : Nat} {H' H2 : Hp} {v : V} (p : LcAtF H D f d i H') (hi : i < 1000000) (hf : f i = true) (e : Ex H' H2) (hv : Rp H2 (New H') v (d i)) :
    ∃ acc, H2 D = some (.lst acc) ∧ acc.length < sizeLine ∧ LcAtF H D f d (i + 1) (upd H2 D (.lst (acc ++ [v]))) := by
  obtain ⟨p1, p2, ys, p3, p4⟩ := p
  have len : ys.length ≤ i := by
    rw [p4.len, List.length_map]
    have := List.length_filter_le f (List.range i)
    rw [List.length_range] at this
    exact this
  have keep : ∀ (b : Addr) (o : HO), New H b ∧ b ≠ D → H2 b = some o → (upd H2 D (.lst (ys ++ [v]))) b = some o := fun b o m q => by rw [upd_ne m.2]; exact q
  refine ⟨ys, e D _ p3, ?_, p1, Mo.ex_new (p2.trans e) p1 Mo.upd, ys ++ [v], upd_same, ?_⟩
  · rw [sizeLine_eq]; omega
  · rw [List.range_succ, List.filter_append, List.filter_cons_of_pos hf, List.filter_nil, List.map_append]
    refine RpA.app ((p4.ex e).keep keep fun _ q => q) (.cons ?_ .nil)
    exact (hv.sub fun b q => ⟨Evl.fresh_back p2 q, lc_step.ne_of_none' q p3⟩).keep keep fun _ q => q
/-- what a comprehension does with what it walks -/
def LcJ (J : It) (g : TG) (tt : TT) (te : TE) (vs : List Nat) (σ : L2.St) (Q : VK) (H1 : Hp) : Prop := ∀ D, H1 D = none → ∃ W : Nat → Nat → Hp → Prop, (∃ m, W 0 m (upd H1 D (.lst []))) ∧ ∀ i m H, W i m H →
  (J.stop i H ∧ Q (.ref D) H) ∨ (J.go i H ∧ ∃ Nx : Hp → Prop, (∀ H', Nx H' → ∃ m', m' < m ∧ W (i + 1) m' H') ∧ ∀ x H', J.yld i H x H' → g x (wipe σ vs) H' fun σ2 H2 => wipe σ2 vs = wipe σ vs ∧ tt σ2 H2 fun b H3 =>
    if b = true then te σ2 H3 fun y H4 => ∃ acc, H4 D = some (.lst acc) ∧ acc.length < sizeLine ∧ Nx (upd H4 D (.lst (acc ++ [y]))) else Nx H3)
theorem lcJ_in (w : Walk J n G Y) (hY : ∀ i H x H', Y i H x H' → Ex H H') (f : Nat → Bool) (d : Nat → PyData) (hn : n ≤ 1000000) (hG : ∀ H', Ex H H' → G H')
    (hs : ∀ (i : Nat) x H1 H2, i < n → Ex H H1 → Y i H1 x H2 → ∀ (R : Hp → Prop) (Rt : VK), (f i = false → ∀ H3, Ex H2 H3 → R H3) → (f i = true → ∀ v H3, Ex H2 H3 → Rp H3 (New H2) v (d i) → Rt v H3) →
      g x (wipe σ vs) H2 fun σ2 H3 => wipe σ2 vs = wipe σ vs ∧ tt σ2 H3 fun b H4 => if b = true then te σ2 H4 Rt else R H4)
    (k : ∀ v H', Ex H H' → Rp H' (New H) v (.list (((List.range n).filter f).map d)) → Q v H') : LcJ J g tt te vs σ Q H := by
  intro D hD
  refine lc_it w (LcAtF H D f d) (.start hD) (fun i H' _ p => hG H' p.2.1) (fun i x H1 H2 hi p y => ?_) (fun H' p => ?_)
  · have e := hY _ _ _ _ y
    refine hs i x H1 H2 hi p.2.1 y _ _ (fun hf H3 e3 => p.no hf (e.trans e3)) fun hf v H3 e3 hv => p.yes (by omega) hf (e.trans e3) (hv.sub fun b q => Evl.fresh_back e q)
  · obtain ⟨p1, p2, ys, p3, p4⟩ := p
    exact k _ _ p2 (.lst p1 p3 (p4.sub fun b q => q.1))
theorem lcL_g (hx : SqL K H a xs) (f : Nat → Bool) (d : Nat → PyData) (hn : xs.length ≤ 1000000)
    (hs : ∀ (i : Nat) x H1, xs[i]? = some x → Ex H H1 → ∀ (R : Hp → Prop) (Rt : VK), (f i = false → ∀ H3, Ex H1 H3 → R H3) → (f i = true → ∀ v H3, Ex H1 H3 → Rp H3 (New H1) v (d i) → Rt v H3) →
      g x (wipe σ vs) H1 fun σ2 H3 => wipe σ2 vs = wipe σ vs ∧ tt σ2 H3 fun b H4 => if b = true then te σ2 H4 Rt else R H4)
    (k : ∀ v H', Ex H H' → Rp H' (New H) v (.list (((List.range xs.length).filter f).map d)) → Q v H') : LcI (Itl K) (fun H a => ∃ xs, SqL K H a xs) g tt te vs σ Q (.ref a) H := by
  refine ⟨a, rfl, ⟨xs, hx⟩, lcJ_in walk_list ?_ f d hn (fun H' e => Evl.ex_l e hx) ?_ k⟩
  · rintro i H1 x H2 ⟨rfl, _⟩
    exact .refl _
  · rintro i x H1 H2 hi e ⟨rfl, h2⟩ R Rt k1 k2
    exact hs i x _ h2 e R Rt k1 k2
theorem range_map {α β : Type} (l : List α) (f : α → β) (d : Nat → β) (h : ∀ i x, l[i]? = some x → d i = f x) : ((List.range l.length).filter fun _ => true).map d = l.map f := by
  rw [List.filter_eq_self.mpr (fun _ _ => rfl)]
  refine List.ext_getElem? fun i => ?_
  rw [List.getElem?_map, List.getElem?_map]
  by_cases q : i < l.length
  · rw [List.getElem?_range q, List.getElem?_eq_getElem q]
    exact congrArg some (h i _ (List.getElem?_eq_getElem q))
  · rw [List.getElem?_eq_none (by rw [List.length_range]; omega), List.getElem?_eq_none (by omega)]
    rfl
theorem tLc_enum : tLc (iEnum K ta) g tt te vs σ H Q = ta σ H fun us H1 => ∃ a xs, us = [.ref a] ∧ SqL K H1 a xs ∧ LcJ (Ite K a) g tt te vs σ Q H1 := rfl
theorem lcE_in (hx : SqL K H a xs) (f : Nat → Bool) (d : Nat → PyData) (hn : xs.length ≤ 1000000)
    (hs : ∀ (i : Nat) x T H1, xs[i]? = some x → Ex H H1 → H1 T = some (.tup [.int (i : Nat), x]) → ∀ (R : Hp → Prop) (Rt : VK), (f i = false → ∀ H3, Ex H1 H3 → R H3) → (f i = true → ∀ v H3, Ex H1 H3 → Rp H3 (New H1) v (d i) → Rt v H3) →
      g (.ref T) (wipe σ vs) H1 fun σ2 H3 => wipe σ2 vs = wipe σ vs ∧ tt σ2 H3 fun b H4 => if b = true then te σ2 H4 Rt else R H4)
    (k : ∀ v H', Ex H H' → Rp H' (New H) v (.list (((List.range xs.length).filter f).map d)) → Q v H') : LcJ (Ite K a) g tt te vs σ Q H := by
  refine lcJ_in walk_enum ?_ f d hn (fun H' e => Evl.ex_l e hx) ?_ k
  · rintro i H1 x H2 ⟨T, x1, y1, rfl, hT, rfl, _⟩
    exact exn hT
  · rintro i x H1 H2 hi e ⟨T, x1, y1, rfl, hT, rfl, h1, h2⟩ R Rt k1 k2
    cases h1
    exact hs i y1 T _ h2 (e.trans (exn hT)) upd_same R Rt k1 k2
end
theorem tup_fine {ns : List Int} (h : ∀ i ∈ ns, -MED < i ∧ i < MED) (hl : ns.length ≤ 1000) : fine 20 (.tuple (ns.map PyData.int)) = true ∧ sz (.tuple (ns.map PyData.int)) ≤ 16000000 := by
  refine ⟨fineAll_ints fun i hi => med_log (h i hi).1 (h i hi).2, ?_⟩
  show szAll (ns.map PyData.int) + 3 ≤ 16000000
  rw [szAll_ints]
  omega
theorem lst_fine {ns : List Int} (h : ∀ i ∈ ns, -MED < i ∧ i < MED) (hl : ns.length ≤ 1000) : fine 20 (.list (ns.map PyData.int)) = true ∧ sz (.list (ns.map PyData.int)) ≤ 16000000 := by
  refine ⟨fineAll_ints fun i hi => med_log (h i hi).1 (h i hi).2, ?_⟩
  show szAll (ns.map PyData.int) + 3 ≤ 16000000
  rw [szAll_ints]
  omega
theorem dp_tup {K : PySem.W.Frag} {H : Hp} {a : Addr} {ns : List Int} (h : H a = some (.tup (ns.map V.int))) : Dp K H (.ref a) (.tuple (ns.map PyData.int)) := .tup (sq_t h) dpa_ints
theorem dp_lst {K : PySem.W.Frag} {H : Hp} {a : Addr} {ns : List Int} (h : H a = some (.lst (ns.map V.int))) : Dp K H (.ref a) (.list (ns.map PyData.int)) := .lst (sq_l h) dpa_ints
theorem hu1 {k : Nat} {A : Around} (r : Room k A) : A.units + 1 < cLine := by have := r.units; omega
theorem filter_range (n a b : Nat) (ha : a ≤ b) (hb : b ≤ n) : (List.range n).filter (fun i => decide (a ≤ i ∧ i < b)) = (List.range (b - a)).map (a + ·) := by
  induction n generalizing b with
  | zero =>
    rw [show b - a = 0 by omega]; rfl
  | succ n ih =>
    rw [List.range_succ, List.filter_append]
    by_cases h : b = n + 1
    · subst h
      by_cases h2 : a = n + 1
      · subst h2
        rw [Nat.sub_self, List.filter_eq_nil_iff.mpr (fun i hi h => by have := of_decide_eq_true h; omega), List.filter_cons_of_neg (by simp)]
        rfl
      · rw [show n + 1 - a = n - a + 1 by omega, List.range_succ, List.map_append, List.filter_cons_of_pos (by simp; omega), List.filter_nil, ← ih n (by omega) (Nat.le_refl _)]
        have e1 : (List.range n).filter (fun i => decide (a ≤ i ∧ i < n + 1)) = (List.range n).filter (fun i => decide (a ≤ i ∧ i < n)) := List.filter_congr fun i hi => by
          have := List.mem_range.mp hi
          exact decide_eq_decide.mpr (by omega)
        rw [e1, List.map_cons, List.map_nil, show a + (n - a) = n by omega]
    · rw [ih b ha (by omega), List.filter_cons_of_neg (by simp; omega), List.filter_nil, List.append_nil]

/-! ### isinstance by the name of a type -/
/-- v is the int n (some n), or no int (a bool is none) -/
def NotInt (K : PySem.W.Frag) (H : Hp) (v : V) : Prop := ∃ t b1 b2, TyX K H v (.type t) ∧ kitB t "int" = some b1 ∧ kitB t "bool" = some b2 ∧ (b1 && !b2) = false
def IntOr (K : PySem.W.Frag) (H : Hp) (v : V) : Option Int → Prop
  | some n => v = .int n
  | none => NotInt K H v
def whole (o : Option Int) (lo hi : Int) : Bool := match o with
  | some n => decide (lo ≤ n ∧ n ≤ hi)
  | none => false
theorem kit_int_int : kitB "int" "int" = some true := by decide +kernel
theorem kit_int_bool : kitB "int" "bool" = some false := by decide +kernel

theorem atI_0 {α : Type} {a : α} {l : List α} : atI (a :: l) 0 = some a := atI_nat (j := 0) rfl
theorem atI_1 {α : Type} {a b : α} {l : List α} : atI (a :: b :: l) 1 = some b := atI_nat (j := 1) rfl
theorem atI_2 {α : Type} {a b c : α} {l : List α} : atI (a :: b :: c :: l) 2 = some c := atI_nat (j := 2) rfl
theorem atI_3 {α : Type} {a b c d : α} {l : List α} : atI (a :: b :: c :: d :: l) 3 = some d := atI_nat (j := 3) rfl
theorem atI_4 {α : Type} {a b c d e : α} {l : List α} : atI (a :: b :: c :: d :: e :: l) 4 = some e := atI_nat (j := 4) rfl
theorem atI_5 {α : Type} {a b c d e f : α} {l : List α} : atI (a :: b :: c :: d :: e :: f :: l) 5 = some f := atI_nat (j := 5) rfl
theorem atI_m1 {α : Type} {xs : List α} {v : α} (h : xs[xs.length - 1]? = some v) : atI xs (-1) = some v := by
  have hl := (List.getElem?_eq_some_iff.mp h).1
  unfold atI ixN
  rw [if_neg (by decide), if_pos (by omega)]
  show xs[((-1 : Int) + (xs.length : Int)).toNat]? = some v
  rw [show ((-1 : Int) + (xs.length : Int)).toNat = xs.length - 1 by omega]
  exact h
theorem atI_of {α : Type} {xs : List α} {i : Int} {j : Nat} {v : α} (e : i = (j : Int)) (h : xs[j]? = some v) : atI xs i = some v := by rw [e]; exact atI_nat h
theorem ixN_of {n j : Nat} {i : Int} (e : i = (j : Int)) (h : j < n) : ixN n i = some j := by rw [e]; exact Evl.ixN_nat h
theorem ixN_30 : ixN 3 0 = some 0 := by decide
theorem ixN_31 : ixN 3 1 = some 1 := by decide
theorem ixN_32 : ixN 3 2 = some 2 := by decide
theorem iteN {c A B : Prop} [Decidable c] (h : c) (b : B) : if ¬ c then A else B := by rw [if_neg (fun n => n h)]; exact b
theorem iteY {c A B : Prop} [Decidable c] (h : c) (a : A) : if c then A else B := by rw [if_pos h]; exact a
theorem iteNo {c A B : Prop} [Decidable c] (h : ¬ c) (b : B) : if c then A else B := by rw [if_neg h]; exact b
theorem iteTF {A B : Prop} (h : B) : if true = false then A else B := by rw [if_neg (by decide)]; exact h
theorem iteFF {A B : Prop} (h : A) : if false = false then A else B := by rw [if_pos rfl]; exact h
/-! ### bounds -/
theorem big_pow {a b : Nat} (h : a * b < 100000) {x y : Nat} (hx : x ≤ 2 ^ a) (hy : y ≤ b) : ((x ^ y : Nat) : Int) < BIG := by
  have h1 : x ^ y ≤ (2 ^ a) ^ b := Nat.le_trans (Nat.pow_le_pow_left hx y) (Nat.pow_le_pow_right (Nat.pow_pos (by decide)) hy)
  rw [← Nat.pow_mul] at h1
  have h2 : (2 : Nat) ^ (a * b) < 2 ^ 100000 := Nat.pow_lt_pow_right (by decide) h
  have h3 : x ^ y < 2 ^ 100000 := Nat.lt_of_le_of_lt h1 h2
  unfold BIG
  have e : ((2 : Int) ^ 100000) = ((2 ^ 100000 : Nat) : Int) := by rw [Int.natCast_pow] <;> rfl
  rw [e]
  exact Int.ofNat_lt.mpr h3

/-! ### the end of a law -/
/-- what is known of a law's script -/
theorem passX {P : Program} {w : World} {fr : List Env} {H : Hp} {s s' : Shared} {e : Value} (h : L2.CX P w fr H s (fun _ _ _ => False) e s') : False := by
  obtain ⟨_, _, _, _, _, _, _, _, _, _, _, _, z⟩ := h
  exact z.elim
theorem med_pow {a b : Nat} (h : a * b < 1900) {x y : Nat} (hx : x ≤ 2 ^ a) (hy : y ≤ b) : ((x ^ y : Nat) : Int) < MED := by
  have h1 : x ^ y ≤ (2 ^ a) ^ b := Nat.le_trans (Nat.pow_le_pow_left hx y) (Nat.pow_le_pow_right (Nat.pow_pos (by decide)) hy)
  rw [← Nat.pow_mul] at h1
  have h2 : (2 : Nat) ^ (a * b) < 2 ^ 1900 := Nat.pow_lt_pow_right (by decide) h
  have h3 : x ^ y < 2 ^ 1900 := Nat.lt_of_le_of_lt h1 h2
  unfold MED
  have e : ((2 : Int) ^ 1900) = ((2 ^ 1900 : Nat) : Int) := by rw [Int.natCast_pow] <;> rfl
  rw [e]
  exact Int.ofNat_lt.mpr h3
theorem law_go {P : Program} {w : World} {K : PySem.W.Frag} {mg mb : Str → Option Value} {k : Nat} {fa a : Addr} {fd : FuncData} {x : Str} {sp : Sp} {s : Shared} {vs : List Value} {ns : List Int}
    (inK : K.In s.heap) (hns : s.heap.Ns mainGlobals mg) (hb : s.heap.Ns builtinsNs mb) (hbb : ∀ x : Str, x ≠ "__name__" → mb x = bootBuiltins x)
    (lim : s.heap.NoLimit) (hg : s.gens = #[]) (ha : s.heap.get? a = some { cls := .type "list", data := .seq vs.toArray })
    (hi : IntsAre vs ns) (hl : ns.length ≤ sizeLine) (hr : Room k callerA)
    (F : ∀ base : Heap, K.In base → base.Ns mainGlobals mg → GOk P w K mg base (L2.CX P w) k fa fd [x] sp)
    (bind : ∀ (s : Shared) (u : Value), BindsTo s fd ⟨[u], []⟩ [(x, u)])
    (hsp : ∀ H : Hp, Only H → SqL K H a (ns.map V.int) → sp [.ref a] H (fun v _ => v = .bl true) fun _ _ _ => False) :
    codeAny (model P w) callerA (.call (.ref fa) ⟨[.ref a], []⟩) (fun r s' => r = .ok (.ret (.bool true)) ∧ OldK s.heap s'.heap ∧ s'.os = s.os ∧ AllBare s'.gens) s := by
  have rv := vals_ints hi
  have lenV := hi.length
  suffices main : ∀ H : Hp, Only H → SqL K H a (ns.map V.int) → HOk P w H s.heap → (∀ b o, H b = some o → b = a ∧ K.lookup a = none) →
      codeAny (model P w) callerA (.call (.ref fa) ⟨[.ref a], []⟩) (fun r s' => r = .ok (.ret (.bool true)) ∧ OldK s.heap s'.heap ∧ s'.os = s.os ∧ AllBare s'.gens) s by
    cases hk : K.lookup a with
    | some o =>
      have e := (inK a o hk).symm.trans ha
      cases e
      exact main (fun _ => none) (fun _ => .inl rfl) (.inr ⟨_, vs.toArray, _, hk, rfl, rfl, rfl, by rw [List.size_toArray, lenV]; exact hl, by simpa using rv⟩)
        (fun _ _ z => nomatch z) (fun _ _ z => nomatch z)
    | none =>
      let ob : Obj := { cls := .type "list", data := .seq vs.toArray }
      have at_ : ∀ b u, (if b = a then some (HO.frz ob (.lst (ns.map V.int))) else none) = some u → b = a ∧ u = .frz ob (.lst (ns.map V.int)) := fun b u z => by
        by_cases q : b = a
        · rw [if_pos q] at z; exact ⟨q, (Option.some.inj z).symm⟩
        · rw [if_neg q] at z; cases z
      refine main (fun b => if b = a then some (.frz ob (.lst (ns.map V.int))) else none) (fun b => ?_) (.inl (.inr ⟨ob, if_pos rfl⟩)) (fun b u z => ?_) (fun b u z => ⟨(at_ b u z).1, hk⟩)
      · by_cases q : b = a
        · exact .inr ⟨_, _, if_pos q⟩
        · exact .inl (if_neg q)
      · obtain ⟨rfl, rfl⟩ := at_ b u z
        exact ⟨ha, by rw [List.length_map]; exact hl, vs, _, rv, ha⟩
  intro H hO hS hok hA
  have seen : ∀ {b : Addr} {o : Obj}, s.heap.get? b = some o → H b = none → (hidT s.heap H).get? b = some o := fun e n => hidT_get e n
  have nsK : ∀ {b : Addr} {m : Str → Option Value}, s.heap.Ns b m → (hidT s.heap H).Ns b m := by
    rintro b m ⟨o, es, ep, e, d, r⟩
    refine ⟨o, es, ep, seen e ?_, d, r⟩
    cases q : H b with
    | none => rfl
    | some u =>
      rw [(hA b u q).1, ha] at e
      cases e
      cases (show Data.seq vs.toArray _ = Data.dict es ep from d)
  have KB : K.In (hidT s.heap H) := fun b o e => seen (inK b o e) (by
    cases q : H b with
    | none => rfl
    | some u =>
      obtain ⟨e1, e2⟩ := hA b u q
      rw [e1, e2] at e
      cases e)
  obtain ⟨mc, l1, l2⟩ := lim
  have M : Mod K mg (hidT s.heap H) := ⟨KB, nsK hns, ⟨mb, nsK hb, hbb⟩, ⟨mc, nsK l1, l2⟩⟩
  have e0 : Env0 P w K mg (hidT s.heap H) callerA [] s H :=
    ⟨rfl, M, fun b o e => of_hidT e, Nat.le_of_eq (hidT_size _ _), trivial, fun b hb => (List.not_mem_nil (show b ∈ ([] : List Addr) from hb)).elim, hok, .of_eq hg⟩
  refine codeAny_mono ((F _ KB (nsK hns)).go callerA [] s H ⟨[.ref a], []⟩ [.ref a] [.ref a] _ _ hr rfl e0 (bind s (.ref a)) (.cons rfl .nil) (hsp H hO hS)) ?_
  rintro (e | fl) s' h
  · exact (passX h).elim
  · cases fl with
    | ret u =>
      obtain ⟨v, H', os, bare, un, hok', r', q⟩ := h
      cases (show v = .bl true from q)
      cases (show u = Value.bool true from r')
      refine ⟨rfl, OldK.of_keep fun b o e => ?_, os, bare⟩
      cases q : H b with
      | none => exact un.keep b o e q (fun z => List.not_mem_nil (show b ∈ ([] : List Addr) from z)) (by simp)
      | some u =>
        rcases hO b with z | ⟨ob, xs, z⟩
        · rw [q] at z; cases z
        · have e1 : s.heap.get? b = some ob := (hok b _ z).1
          have e2 : s'.heap.get? b = some ob := (hok' b _ (un.frzs b ob _ z)).1
          rw [e1] at e
          rw [e2, e]
    | _ => exact h.elim
/-- the goal behind the head, from the promise of the law's def -/
theorem walk_g {l : PySem.W.OpenLaw} {n k : Nat} {q : Program} {loose : List Str} {XP : (Str → Option Value) → Heap → Prop} {YP : World → Heap → Prop} {d : DefRec} {x : Str}
    (hn : l.most = some n) (hn2 : n ≤ sizeLine) (hdf : d.params.defaults = []) (hr : Room k callerA)
    (F : ∀ (w : World) (mg : Str → Option Value) (fa : Addr) (h : Heap), YP w h → h.Ns mainGlobals mg → mg d.name = some (.ref fa) →
      ∃ (K : PySem.W.Frag) (fd : FuncData) (sp : Sp), K.In h ∧ (∀ (s : Shared) (u : Value), BindsTo s fd ⟨[u], []⟩ [(x, u)]) ∧
        (∀ (H : Hp) (a : Addr) (ns : List Int), ns.length ≤ n → Only H → SqL K H a (ns.map V.int) → sp [.ref a] H (fun v _ => v = .bl true) fun _ _ _ => False) ∧
        ∀ base : Heap, K.In base → base.Ns mainGlobals mg → GOk l.prog w K mg base (L2.CX l.prog w) k fa fd [x] sp) :
    PySem.W.WalkO q loose XP YP l.row.toRowW d [] (fun f vs => PySem.call f vs) := by
  refine Att.attach_call hn hdf ?_
  intro w s₀ s₁ mg mb fa o pm cd doc a vs ns G Y ho hd hcd hmg hobj hints hlen hg
  obtain ⟨K, fd, sp, KX, hb, hsp, hF⟩ := F w mg fa _ Y G.T.g hmg
  exact law_go KX G.T.g G.T.b G.T.builtins G.T.nolimit hg hobj hints (Nat.le_trans hlen hn2) hr hF hb fun H hO hS => hsp H a ns hlen hO hS
theorem law_in {K : PySem.W.Frag} {H : Hp} {a : Addr} {ns : List Int} (hl : ns.length ≤ 63) (hS : SqL K H a (ns.map V.int)) {Q : VK} {E : XK} (hQ : ∀ H', Q (.bl true) H') :
    sp1 (fun x H Q _ => ∃ (a : Addr) (ns : List Int), x = .ref a ∧ SqL K H a (ns.map V.int) ∧ ns.length ≤ 63 ∧ ∀ H', Q (.bl true) H') [.ref a] H Q E := ⟨_, rfl, a, ns, rfl, hS, hl, hQ⟩
end Bs

namespace Bs
/-! ### reaches: the ways to choose, by adding up -/
def R : Nat → Nat → Nat
  | 0 => fun _ => 1
  | s + 1 => fun r => Nat.rec (motive := fun _ => Nat) 1 (fun k ih => R s (k + 1) + ih) r
theorem R_z (s : Nat) : R s 0 = 1 := by cases s <;> rfl
theorem R_0 (r : Nat) : R 0 r = 1 := rfl
theorem R_ss (s r : Nat) : R (s + 1) (r + 1) = R s (r + 1) + R (s + 1) r := rfl
theorem R_comm : ∀ s r : Nat, R s r = R r s
  | 0, r => by rw [R_0, R_z]
  | s + 1, 0 => by rw [R_0, R_z]
  | s + 1, r + 1 => by rw [R_ss, R_ss, R_comm s (r + 1), R_comm (s + 1) r, Nat.add_comm]
theorem R_pos (s r : Nat) : 0 < R s r := by
  induction s generalizing r with
  | zero => rw [R_0]; decide
  | succ s ih =>
    cases r with
    | zero => rw [R_z]; decide
    | succ r => rw [R_ss]; have := ih (r + 1); omega
/-- one slot more: times s + r + 1, over s + 1 -/
theorem R_up : ∀ s r : Nat, R (s + 1) r * (s + 1) = R s r * (s + r + 1)
  | 0, 0 => rfl
  | 0, r + 1 => by
    have ih := R_up 0 r
    rw [R_0] at ih ⊢
    rw [R_ss, R_0]
    omega
  | s + 1, 0 => by rw [R_z, R_z]
  | s + 1, r + 1 => by
    have h1 := R_up s (r + 1)
    have h2 := R_up (s + 1) r
    rw [R_ss (s + 1) r, Nat.add_mul, h2]
    rw [R_ss s r]
    rw [R_ss s r] at h1
    -- h1: (A + B)(s+1) = A (s + r + 2), A = R s (r+1), B = R (s+1) r
    generalize R s (r + 1) = A at *
    generalize R (s + 1) r = B at *
    have e1 : (A + B) * (s + 1) = A * s + A + B * s + B := by
      rw [Nat.mul_add, Nat.add_mul, Nat.mul_one]; omega
    have e2 : A * (s + (r + 1) + 1) = A * s + A * r + A + A := by
      rw [Nat.mul_add, Nat.mul_add, Nat.mul_add]; omega
    have e3 : (A + B) * (s + 1 + 1) = A * s + B * s + A + A + B + B := by
      rw [Nat.mul_add, Nat.mul_add, Nat.add_mul]; omega
    have e4 : B * (s + 1 + r + 1) = B * s + B + B * r + B := by
      rw [Nat.mul_add, Nat.mul_add, Nat.mul_add]; omega
    have e6 : ∀ X : Nat, X * (s + 1 + (r + 1) + 1) = X * s + X * r + X + X + X := fun X => by
      rw [Nat.mul_add, Nat.mul_add, Nat.mul_add, Nat.mul_add]; omega
    have e5 : (A + B) * (s + 1 + (r + 1) + 1) = A * s + A * r + A + A + A + (B * s + B * r + B + B + B) := by
      rw [Nat.add_mul, e6, e6]
    rw [e1, e2] at h1
    rw [e3, e4, e5]
    omega
theorem R_right (s r : Nat) : R s (r + 1) * (r + 1) = R s r * (s + r + 1) := by
  rw [R_comm s (r + 1), R_up r s, R_comm r s, Nat.add_comm r s]
theorem R_le : ∀ s r : Nat, R s r ≤ (r + 1) ^ s
  | 0, r => by rw [R_0, Nat.pow_zero]; exact Nat.le_refl _
  | s + 1, 0 => by rw [R_z]; exact Nat.pos_of_ne_zero (by simp)
  | s + 1, r + 1 => by
    have h1 := R_le s (r + 1)
    have h2 := R_le (s + 1) r
    rw [R_ss, Nat.pow_succ, Nat.mul_add, Nat.mul_one]
    have h3 : (r + 1) ^ (s + 1) ≤ (r + 1 + 1) ^ s * (r + 1) := by
      rw [Nat.pow_succ]
      exact Nat.mul_le_mul_right _ (Nat.pow_le_pow_left (Nat.le_succ _) s)
    omega
theorem R_mono_r (s r : Nat) : R s r ≤ R s (r + 1) := by
  cases s with
  | zero => exact Nat.le_refl _
  | succ s => rw [R_ss]; omega
theorem R_mono {s r r' : Nat} (h : r ≤ r') : R s r ≤ R s r' := by
  induction h with
  | refl => exact Nat.le_refl _
  | step _ ih => exact Nat.le_trans ih (R_mono_r _ _)
theorem R_mono_l {s s' r : Nat} (h : s ≤ s') : R s r ≤ R s' r := by
  rw [R_comm s, R_comm s']
  exact R_mono h
theorem R_one (r : Nat) : R 1 r = r + 1 := by
  induction r with
  | zero => rfl
  | succ r ih => rw [R_ss, R_0, ih]; omega
/-- with rounds that may be -1 -/
def Rz (s r : Int) : Int := if r < 0 then (if s ≤ 0 then 1 else 0) else (R s.toNat r.toNat : Nat)
theorem Rz_nat (s r : Nat) : Rz s r = (R s r : Nat) := by
  unfold Rz
  rw [if_neg (by omega)]
  rfl
theorem Rz_neg {s : Int} (h : 0 < s) : Rz s (-1) = 0 := by
  unfold Rz
  rw [if_pos (by omega), if_neg (by omega)]
theorem Rz_of {s r : Int} (hs : 0 ≤ s) (hr : 0 ≤ r) : Rz s r = (R s.toNat r.toNat : Nat) := by
  unfold Rz
  rw [if_neg (by omega)]
theorem Rz_zero {r : Int} : Rz 0 r = 1 := by
  unfold Rz
  split <;> rfl
theorem Rz_nonneg (s r : Int) : 0 ≤ Rz s r := by
  unfold Rz
  split
  · split <;> omega
  · omega
theorem Rz_pascal {s r : Int} (h1 : 1 < s) (h2 : 0 < r) : Rz s r = Rz (s - 1) r + Rz s (r - 1) := by
  obtain ⟨s, rfl⟩ := Int.eq_ofNat_of_zero_le (by omega : 0 ≤ s)
  obtain ⟨r, rfl⟩ := Int.eq_ofNat_of_zero_le (by omega : 0 ≤ r)
  obtain ⟨s, rfl⟩ : ∃ t, s = t + 1 := ⟨s - 1, by omega⟩
  obtain ⟨r, rfl⟩ : ∃ t, r = t + 1 := ⟨r - 1, by omega⟩
  rw [show ((s + 1 : Nat) : Int) - 1 = (s : Int) by omega, show ((r + 1 : Nat) : Int) - 1 = (r : Int) by omega, Rz_nat, Rz_nat, Rz_nat, R_ss]
  omega
theorem Rz_comm {s r : Int} (h1 : 0 ≤ s) (h2 : 0 ≤ r) : Rz s r = Rz r s := by
  rw [Rz_of h1 h2, Rz_of h2 h1, R_comm]
theorem Rz_one {r : Int} (h : 0 ≤ r) : Rz 1 r = r + 1 := by
  rw [Rz_of (by decide) h, show (1 : Int).toNat = 1 by rfl, R_one]
  omega
theorem Rz_r0 {s : Int} (h : 0 ≤ s) : Rz s 0 = 1 := by
  rw [Rz_of h (Int.le_refl _), show (0 : Int).toNat = 0 by rfl, R_z]
  rfl
/-- one turn of reach_of -/
theorem Rz_turn {j r : Int} (hj : 0 ≤ j) (hr : -1 ≤ r) : Rz j r * (r + (j + 1)) / (j + 1) = Rz (j + 1) r := by
  by_cases h : r < 0
  · have e : r = -1 := by omega
    subst e
    by_cases h0 : j = 0
    · subst h0; rfl
    · rw [Rz_neg (by omega), Rz_neg (by omega), Int.zero_mul, Int.zero_ediv]
  · obtain ⟨j, rfl⟩ := Int.eq_ofNat_of_zero_le hj
    obtain ⟨r, rfl⟩ := Int.eq_ofNat_of_zero_le (by omega : 0 ≤ r)
    have e1 : Rz (j : Int) r = (R j r : Nat) := Rz_nat j r
    have e2 : Rz ((j : Int) + 1) r = (R (j + 1) r : Nat) := Rz_nat (j + 1) r
    rw [e1, e2]
    have h := R_up j r
    have h2 : ((R j r : Nat) : Int) * ((r : Int) + ((j : Int) + 1)) = ((R (j + 1) r : Nat) : Int) * ((j : Int) + 1) := by
      have : (r : Int) + ((j : Int) + 1) = ((j + r + 1 : Nat) : Int) := by omega
      rw [this, show ((j : Int) + 1) = ((j + 1 : Nat) : Int) by omega, ← Int.natCast_mul, ← Int.natCast_mul, h]
    rw [h2]
    exact Int.mul_ediv_cancel _ (by omega)
/-- one turn of choosing from above: over n = s + r things, j of them -/
theorem R_turn {s r j : Nat} (hj : j < s + r) : R j (s + r - j) * (s + r - j) = R (j + 1) (s + r - (j + 1)) * (j + 1) := by
  obtain ⟨m, hm⟩ : ∃ m, s + r = j + 1 + m := ⟨s + r - (j + 1), by omega⟩
  rw [hm, show j + 1 + m - j = m + 1 by omega, show j + 1 + m - (j + 1) = m by omega]
  rw [R_right j m, R_up j m]
end Bs

namespace Bs
/-! ### rounds -/
def rhoA (s n : Nat) : Nat → Nat → Nat
  | 0, r => r
  | k + 1, r => if n ≤ R s r then r else rhoA s n k (r + 1)
/-- the least number of rounds that reach n states (1 slot or more) -/
def rhoN (n s : Nat) : Nat := rhoA s n n 0
theorem R_gt {s : Nat} (h : 1 ≤ s) (r : Nat) : r + 1 ≤ R s r := by
  have := R_mono_l (s := 1) (s' := s) (r := r) h
  rw [R_one] at this
  exact this
theorem rhoA_spec {s n : Nat} : ∀ (k r : Nat), n ≤ R s (r + k) → n ≤ R s (rhoA s n k r) ∧ r ≤ rhoA s n k r ∧ ∀ q, r ≤ q → q < rhoA s n k r → R s q < n
  | 0, r, h => ⟨h, Nat.le_refl _, fun q h1 h2 => by simp [rhoA] at h2; omega⟩
  | k + 1, r, h => by
    unfold rhoA
    split
    · rename_i h1
      exact ⟨h1, Nat.le_refl _, fun q h2 h3 => by omega⟩
    · rename_i h1
      obtain ⟨a, b, c⟩ := rhoA_spec k (r + 1) (by rw [show r + 1 + k = r + (k + 1) by omega]; exact h)
      refine ⟨a, by omega, fun q h2 h3 => ?_⟩
      by_cases e : q = r
      · subst e; omega
      · exact c q (by omega) h3
theorem rhoN_spec {n s : Nat} (h : 1 ≤ s) : n ≤ R s (rhoN n s) ∧ ∀ q, q < rhoN n s → R s q < n := by
  have h1 := R_gt h n
  obtain ⟨a, b, c⟩ := rhoA_spec (s := s) (n := n) n 0 (by rw [Nat.zero_add]; omega)
  exact ⟨a, fun q hq => c q (Nat.zero_le _) hq⟩
theorem rhoN_eq {n s r : Nat} (h : 1 ≤ s) (h1 : n ≤ R s r) (h2 : ∀ q, q < r → R s q < n) : rhoN n s = r := by
  obtain ⟨a, b⟩ := rhoN_spec (n := n) h
  rcases Nat.lt_trichotomy (rhoN n s) r with h3 | h3 | h3
  · have := h2 _ h3; omega
  · exact h3
  · have := b _ h3; omega
/-- the same over the ints -/
def rho (n s : Int) : Int := (rhoN n.toNat s.toNat : Nat)
theorem rho_nonneg (n s : Int) : 0 ≤ rho n s := by unfold rho; omega
theorem Rz_mono {s r r' : Int} (hs : 0 ≤ s) (h : r ≤ r') (h0 : -1 ≤ r) : Rz s r ≤ Rz s r' := by
  by_cases hr : r < 0
  · have e : r = -1 := by omega
    subst e
    by_cases h2 : s = 0
    · subst h2; rw [Rz_zero, Rz_zero]; exact Int.le_refl _
    · rw [Rz_neg (by omega)]; exact Rz_nonneg _ _
  · rw [Rz_of hs (by omega), Rz_of hs (by omega)]
    exact Int.ofNat_le.mpr (R_mono (by omega))
theorem Rz_gt {s r : Int} (hs : 1 ≤ s) (hr : 0 ≤ r) : r + 1 ≤ Rz s r := by
  rw [Rz_of (by omega) hr]
  have := R_gt (s := s.toNat) (by omega) r.toNat
  omega
theorem rho_reach {n s : Int} (hs : 1 ≤ s) : n ≤ Rz s (rho n s) := by
  unfold rho
  rw [Rz_of (by omega) (by omega)]
  have := (rhoN_spec (n := n.toNat) (s := s.toNat) (by omega)).1
  simp only [Int.toNat_natCast]
  omega
theorem rho_least {n s q : Int} (hn : 1 ≤ n) (hs : 1 ≤ s) (h0 : -1 ≤ q) (h : q < rho n s) : Rz s q < n := by
  by_cases hq : q < 0
  · have e : q = -1 := by omega
    subst e
    rw [Rz_neg (by omega)]; omega
  · rw [Rz_of (by omega) (by omega)]
    have := (rhoN_spec (n := n.toNat) (s := s.toNat) (by omega)).2 q.toNat (by unfold rho at h; omega)
    omega
theorem rho_eq {n s r : Int} (hn : 1 ≤ n) (hs : 1 ≤ s) (h0 : 0 ≤ r) (h1 : n ≤ Rz s r) (h2 : Rz s (r - 1) < n) : rho n s = r := by
  rcases Int.lt_trichotomy (rho n s) r with h | h | h
  · have a := rho_reach (n := n) hs
    have b := Rz_mono (s := s) (r := rho n s) (r' := r - 1) (by omega) (by omega) (by have := rho_nonneg n s; omega)
    omega
  · exact h
  · have := rho_least (q := r) hn hs (by omega) h
    omega
theorem rho_le {n s r : Int} (hn : 1 ≤ n) (hs : 1 ≤ s) (h0 : 0 ≤ r) : rho n s ≤ r ↔ n ≤ Rz s r := by
  constructor
  · intro h
    exact Int.le_trans (rho_reach hs) (Rz_mono (by omega) h (by have := rho_nonneg n s; omega))
  · intro h
    by_cases h2 : rho n s ≤ r
    · exact h2
    · have := rho_least (q := r) hn hs (by omega) (by omega)
      omega
theorem rho_lt {n s : Int} (hn : 1 ≤ n) (hs : 1 ≤ s) : rho n s < n := by
  have := (rho_le (n := n) (s := s) (r := n - 1) hn hs (by omega)).mpr (by have := Rz_gt (s := s) (r := n - 1) hs (by omega); omega)
  omega
/-! ### the least steps -/
def tz (n s : Int) : Int := rho n s * n - Rz (s + 1) (rho n s - 1)
/-- one round more or less is never more -/
theorem Rz_next {s r : Int} (hs : 0 ≤ s) (hr : 0 ≤ r) : Rz (s + 1) r = Rz s r + Rz (s + 1) (r - 1) := by
  by_cases h : r = 0
  · subst h
    rw [Rz_r0 (by omega), Rz_r0 hs, show (0 : Int) - 1 = -1 by rfl, Rz_neg (by omega)]
    rfl
  · by_cases h2 : s = 0
    · subst h2
      rw [show (0 : Int) + 1 = 1 by rfl, Rz_zero, Rz_one hr, Rz_one (by omega)]
      omega
    · have := Rz_pascal (s := s + 1) (r := r) (by omega) (by omega)
      rw [show s + 1 - 1 = s by omega] at this
      exact this
/-- the line of k rounds at n -/
def lin (n s k : Int) : Int := k * n - Rz (s + 1) (k - 1)
theorem lin_step {n s k : Int} (hs : 0 ≤ s) (hk : 0 ≤ k) : lin n s (k + 1) = lin n s k + (n - Rz s k) := by
  unfold lin
  rw [show k + 1 - 1 = k by omega, Rz_next hs hk, Int.add_mul, Int.one_mul]
  omega
theorem lin_up {n s : Int} (hs : 0 ≤ s) (k : Int) (hk : 0 ≤ k) : ∀ d : Nat, n ≤ Rz s k → lin n s (k + d) ≤ lin n s k
  | 0, _ => by simp
  | d + 1, h => by
    have ih := lin_up hs k hk d h
    have e := lin_step (n := n) (k := k + d) hs (by omega)
    have m := Rz_mono (s := s) (r := k) (r' := k + d) hs (by omega) (by omega)
    rw [show k + ((d + 1 : Nat) : Int) = k + d + 1 by omega, e]
    omega
theorem lin_down {n s : Int} (hs : 0 ≤ s) (k : Int) : ∀ d : Nat, 0 ≤ k - d → Rz s (k - 1) ≤ n → lin n s (k - d) ≤ lin n s k
  | 0, _, _ => by simp
  | d + 1, h0, h => by
    have ih := lin_down hs k d (by omega) h
    have e := lin_step (n := n) (k := k - (d + 1 : Nat)) hs h0
    have m := Rz_mono (s := s) (r := k - (d + 1 : Nat)) (r' := k - 1) hs (by omega) (by omega)
    rw [show k - ((d + 1 : Nat) : Int) + 1 = k - d by omega] at e
    omega
theorem tz_lin {n s : Int} : tz n s = lin n s (rho n s) := rfl
/-- t is the greatest of its lines -/
theorem tz_ge {n s k : Int} (hn : 1 ≤ n) (hs : 1 ≤ s) (hk : 0 ≤ k) : lin n s k ≤ tz n s := by
  rw [tz_lin]
  have h0 := rho_nonneg n s
  rcases Int.le_total (rho n s) k with h | h
  · have := lin_up (n := n) (s := s) (by omega) (rho n s) h0 (k - rho n s).toNat (rho_reach hs)
    rw [show rho n s + ((k - rho n s).toNat : Int) = k by omega] at this
    exact this
  · have h1 : Rz s (rho n s - 1) ≤ n := Int.le_of_lt (rho_least hn hs (by omega) (by omega))
    have := lin_down (n := n) (s := s) (by omega) (rho n s) (rho n s - k).toNat (by omega) h1
    rw [show rho n s - ((rho n s - k).toNat : Int) = k by omega] at this
    exact this
/-- .. and is the line of k rounds just where these reach -/
theorem tz_at {n s k : Int} (hn : 1 ≤ n) (hs : 1 ≤ s) (hk : 0 ≤ k) (h1 : Rz s (k - 1) ≤ n) (h2 : n ≤ Rz s k) : tz n s = lin n s k := by
  have h0 := rho_nonneg n s
  have hle : rho n s ≤ k := (rho_le hn hs hk).mpr h2
  by_cases e : rho n s = k
  · rw [tz_lin, e]
  · have hr := rho_reach (n := n) hs
    have hm := Rz_mono (s := s) (r := rho n s) (r' := k - 1) (by omega) (by omega) (by omega)
    have a := tz_ge (k := k) hn hs hk
    have b := lin_down (n := n) (s := s) (by omega) k (k - rho n s).toNat (by omega) h1
    rw [show k - ((k - rho n s).toNat : Int) = rho n s by omega] at b
    rw [tz_lin] at a ⊢
    omega
theorem tz_gt {n s k : Int} (hn : 1 ≤ n) (hs : 1 ≤ s) (hk : 0 ≤ k) (h : n < Rz s (k - 1) ∨ Rz s k < n) : lin n s k < tz n s := by
  rcases h with h | h
  · have hk1 : 1 ≤ k := by
      by_cases e : k = 0
      · subst e
        rw [show (0 : Int) - 1 = -1 by rfl, Rz_neg (by omega)] at h
        omega
      · omega
    have a := tz_ge (k := k - 1) hn hs (by omega)
    have e := lin_step (n := n) (s := s) (k := k - 1) (by omega) (by omega)
    rw [show k - 1 + 1 = k by omega] at e
    omega
  · have a := tz_ge (k := k + 1) hn hs (by omega)
    have e := lin_step (n := n) (s := s) (k := k) (by omega) hk
    omega
theorem rho_one {s : Int} (hs : 1 ≤ s) : rho 1 s = 0 := rho_eq (Int.le_refl _) hs (Int.le_refl _) (by rw [Rz_r0 (by omega)]; exact Int.le_refl _) (by rw [show (0 : Int) - 1 = -1 by rfl, Rz_neg (by omega)]; decide)
theorem rho_pos {n s : Int} (hn : 2 ≤ n) (hs : 1 ≤ s) : 1 ≤ rho n s := by
  have h0 := rho_nonneg n s
  have h := rho_reach (n := n) hs
  by_cases e : rho n s = 0
  · rw [e, Rz_r0 (by omega)] at h; omega
  · omega
theorem tz_one {s : Int} (hs : 1 ≤ s) : tz 1 s = 0 := by
  unfold tz
  rw [rho_one hs, show (0 : Int) - 1 = -1 by rfl, Rz_neg (by omega)]
  rfl
theorem tz_nonneg {n s : Int} (hn : 1 ≤ n) (hs : 1 ≤ s) : 0 ≤ tz n s := by
  have := tz_ge (k := 0) hn hs (Int.le_refl _)
  unfold lin at this
  rw [show (0 : Int) - 1 = -1 by rfl, Rz_neg (by omega)] at this
  omega
/-! ### splits -/
def fz (n s m : Int) : Int := m + tz (n - m) (s - 1) + tz m s
theorem lin_split {n s m r : Int} (hs : 2 ≤ s) (hr : 1 ≤ r) : m + lin (n - m) (s - 1) r + lin m s (r - 1) = lin n s r := by
  unfold lin
  have e := Rz_next (s := s) (r := r - 1) (by omega) (by omega)
  rw [show s - 1 + 1 = s by omega, show r - 1 - 1 = r - 2 by omega] at *
  rw [e, Int.mul_sub, Int.sub_mul, Int.one_mul]
  omega
/-- no split is better -/
theorem tz_le_fz {n s m : Int} (hs : 2 ≤ s) (h1 : 1 ≤ m) (h2 : m < n) : tz n s ≤ fz n s m := by
  have hr := rho_pos (n := n) (s := s) (by omega) (by omega)
  have e := lin_split (n := n) (m := m) hs hr
  have a := tz_ge (n := n - m) (s := s - 1) (k := rho n s) (by omega) (by omega) (by omega)
  have b := tz_ge (n := m) (s := s) (k := rho n s - 1) h1 (by omega) (by omega)
  unfold fz
  rw [tz_lin (n := n)]
  omega
/-- the stretch of the best ones -/
def Best (n s m : Int) : Prop := Rz s (rho n s - 2) ≤ m ∧ m ≤ Rz s (rho n s - 1) ∧ Rz (s - 1) (rho n s - 1) ≤ n - m ∧ n - m ≤ Rz (s - 1) (rho n s)
theorem tz_best {n s m : Int} (hs : 2 ≤ s) (h1 : 1 ≤ m) (h2 : m < n) (h : Best n s m) : fz n s m = tz n s := by
  have hr := rho_pos (n := n) (s := s) (by omega) (by omega)
  have e := lin_split (n := n) (m := m) hs hr
  obtain ⟨b1, b2, b3, b4⟩ := h
  have a := tz_at (n := n - m) (s := s - 1) (k := rho n s) (by omega) (by omega) (by omega) b3 b4
  have b := tz_at (n := m) (s := s) (k := rho n s - 1) h1 (by omega) (by omega) (by rw [show rho n s - 1 - 1 = rho n s - 2 by omega]; exact b1) b2
  unfold fz
  rw [a, b, tz_lin (n := n)]
  omega
theorem tz_lt_fz {n s m : Int} (hs : 2 ≤ s) (h1 : 1 ≤ m) (h2 : m < n) (h : ¬ Best n s m) : tz n s < fz n s m := by
  have hr := rho_pos (n := n) (s := s) (by omega) (by omega)
  have e := lin_split (n := n) (m := m) hs hr
  have a := tz_ge (n := n - m) (s := s - 1) (k := rho n s) (by omega) (by omega) (by omega)
  have b := tz_ge (n := m) (s := s) (k := rho n s - 1) h1 (by omega) (by omega)
  have c : lin (n - m) (s - 1) (rho n s) < tz (n - m) (s - 1) ∨ lin m s (rho n s - 1) < tz m s := by
    unfold Best at h
    by_cases q1 : Rz (s - 1) (rho n s - 1) ≤ n - m ∧ n - m ≤ Rz (s - 1) (rho n s)
    · refine .inr (tz_gt h1 (by omega) (by omega) ?_)
      rw [show rho n s - 1 - 1 = rho n s - 2 by omega]
      omega
    · exact .inl (tz_gt (by omega) (by omega) (by omega) (by omega))
  unfold fz
  rw [tz_lin (n := n)]
  omega
/-- there is a best one -/
theorem best_is {n s : Int} (hn : 2 ≤ n) (hs : 2 ≤ s) : ∃ m, 1 ≤ m ∧ m < n ∧ Best n s m := by
  have hr := rho_pos (n := n) (s := s) hn (by omega)
  have h1 := rho_reach (n := n) (s := s) (by omega)
  have h2 := rho_least (n := n) (s := s) (q := rho n s - 1) (by omega) (by omega) (by omega) (by omega)
  unfold Best
  generalize rho n s = r at *
  have e1 := Rz_next (s := s - 1) (r := r) (by omega) (by omega)
  rw [show s - 1 + 1 = s by omega] at e1
  have p1 : 1 ≤ Rz s (r - 1) := by have := Rz_gt (s := s) (r := r - 1) (by omega) (by omega); omega
  have p2 : 1 ≤ Rz (s - 1) (r - 1) := by have := Rz_gt (s := s - 1) (r := r - 1) (by omega) (by omega); omega
  have e2 := Rz_next (s := s - 1) (r := r - 1) (by omega) (by omega)
  rw [show s - 1 + 1 = s by omega, show r - 1 - 1 = r - 2 by omega] at e2
  have m1 := Rz_mono (s := s) (r := r - 2) (r' := r - 1) (by omega) (by omega) (by omega)
  have m2 := Rz_mono (s := s - 1) (r := r - 1) (r' := r) (by omega) (by omega) (by omega)
  have p0 := Rz_nonneg s (r - 2)
  -- the greatest of the lower ends
  refine ⟨max 1 (max (Rz s (r - 2)) (n - Rz (s - 1) r)), by omega, by omega, ?_⟩
  omega
/-- least and greatest best -/
def loz (n s : Int) : Int := max (max 1 (if rho n s > 1 then Rz s (rho n s - 2) else 0)) (n - Rz (s - 1) (rho n s))
def hiz (n s : Int) : Int := min (min (n - 1) (Rz s (rho n s - 1))) (n - Rz (s - 1) (rho n s - 1))
theorem best_iff {n s m : Int} (hn : 2 ≤ n) (hs : 2 ≤ s) (h1 : 1 ≤ m) (h2 : m < n) : Best n s m ↔ loz n s ≤ m ∧ m ≤ hiz n s := by
  have hr := rho_pos (n := n) (s := s) hn (by omega)
  unfold Best loz hiz
  by_cases e : rho n s > 1
  · rw [if_pos e]; omega
  · rw [if_neg e, show rho n s - 2 = -1 by omega, Rz_neg (by omega)]; omega
theorem loz_range {n s : Int} (hn : 2 ≤ n) (hs : 2 ≤ s) : 1 ≤ loz n s ∧ loz n s ≤ hiz n s ∧ hiz n s < n := by
  obtain ⟨m, h1, h2, h3⟩ := best_is hn hs
  obtain ⟨a, b⟩ := (best_iff hn hs h1 h2).mp h3
  refine ⟨?_, by omega, ?_⟩
  · unfold loz; omega
  · unfold hiz; omega
theorem tz_slot1 {n : Int} (hn : 1 ≤ n) : 2 * tz n 1 = n * (n - 1) := by
  have e : rho n 1 = n - 1 := rho_eq hn (Int.le_refl _) (by omega) (by rw [Rz_one (by omega)]; omega) (by
    by_cases h : n = 1
    · subst h; rw [show (1 : Int) - 1 - 1 = -1 by rfl, Rz_neg (by decide)]; decide
    · rw [Rz_one (by omega)]; omega)
  unfold tz
  rw [e, show (1 : Int) + 1 = 2 by rfl]
  have h2 : ∀ k : Nat, 2 * Rz 2 ((k : Int) - 1) = ((k : Int) + 1) * k := by
    intro k
    induction k with
    | zero => rw [show ((0 : Nat) : Int) - 1 = -1 by rfl, Rz_neg (by decide)]; rfl
    | succ k ih =>
      have e := Rz_next (s := 1) (r := (k : Int)) (by decide) (by omega)
      rw [show (1 : Int) + 1 = 2 by rfl, Rz_one (by omega)] at e
      rw [show ((k + 1 : Nat) : Int) - 1 = (k : Int) by omega, e]
      have e3 : (((k + 1 : Nat) : Int) + 1) * ((k + 1 : Nat) : Int) = ((k : Int) + 1) * k + 2 * ((k : Int) + 1) := by
        rw [show ((k + 1 : Nat) : Int) = (k : Int) + 1 by omega, Int.mul_add, Int.add_mul ((k : Int) + 1) 1 (k : Int)]
        omega
      rw [e3]
      omega
  obtain ⟨k, hk⟩ := Int.eq_ofNat_of_zero_le (show 0 ≤ n - 1 by omega)
  have e4 := h2 k
  rw [show n - 1 - 1 = (k : Int) - 1 by omega, hk]
  have e5 : n = (k : Int) + 1 := by omega
  rw [e5] at *
  rw [Int.mul_sub, e4, Int.mul_comm ((k : Int) + 1) (k : Int)]
  omega
end Bs

namespace Bs
theorem Rz_mono_l {s s' r : Int} (hs : 1 ≤ s) (h : s ≤ s') (hr : -1 ≤ r) : Rz s r ≤ Rz s' r := by
  by_cases h0 : r < 0
  · have e : r = -1 := by omega
    subst e
    rw [Rz_neg (by omega), Rz_neg (by omega)]
    exact Int.le_refl _
  · rw [Rz_of (by omega) (by omega), Rz_of (by omega) (by omega)]
    exact Int.ofNat_le.mpr (R_mono_l (by omega))
/-- one state more costs its rounds -/
theorem tz_succ {n s : Int} (hn : 1 ≤ n) (hs : 1 ≤ s) : tz (n + 1) s - tz n s = rho (n + 1) s := by
  have r0 := rho_pos (n := n + 1) (s := s) (by omega) hs
  have h1 := rho_reach (n := n + 1) hs
  have h2 := rho_least (n := n + 1) (s := s) (q := rho (n + 1) s - 1) (by omega) hs (by omega) (by omega)
  have e := tz_at (n := n) (s := s) (k := rho (n + 1) s) hn hs (by omega) (by omega) (by omega)
  rw [e, tz_lin]
  unfold lin
  rw [Int.mul_add, Int.mul_one]
  omega
/-- one slot more never costs -/
theorem tz_anti {n s : Int} (hn : 1 ≤ n) (hs : 1 ≤ s) : tz n (s + 1) ≤ tz n s := by
  have r0 := rho_nonneg n (s + 1)
  have a := tz_ge (n := n) (s := s) (k := rho n (s + 1)) hn hs r0
  have b := Rz_mono_l (s := s + 1) (s' := s + 1 + 1) (r := rho n (s + 1) - 1) (by omega) (by omega) (by omega)
  rw [tz_lin (s := s + 1)]
  unfold lin at *
  omega
theorem tz_low {n s : Int} (hn : 1 ≤ n) (hs : 1 ≤ s) : n - 1 ≤ tz n s := by
  have := tz_ge (n := n) (s := s) (k := 1) hn hs (by decide)
  unfold lin at this
  rw [show (1 : Int) - 1 = 0 by rfl, Rz_r0 (by omega)] at this
  omega
theorem tz_anti_le {n s : Int} (hn : 1 ≤ n) (hs : 1 ≤ s) : ∀ d : Nat, tz n (s + d) ≤ tz n s
  | 0 => by simp
  | d + 1 => by
    have := tz_anti_le hn hs d
    have := tz_anti (n := n) (s := s + d) hn (by omega)
    rw [show s + ((d + 1 : Nat) : Int) = s + d + 1 by omega]
    omega
theorem tz_anti2 {n s s' : Int} (hn : 1 ≤ n) (hs : 1 ≤ s) (h : s ≤ s') : tz n s' ≤ tz n s := by
  have := tz_anti_le (n := n) hn hs (s' - s).toNat
  rw [show s + ((s' - s).toNat : Int) = s' by omega] at this
  exact this
theorem tz_one_slot {n : Int} (hn : 1 ≤ n) : n * (n - 1) / 2 = tz n 1 := by
  have := tz_slot1 hn
  have e : n * (n - 1) = tz n 1 * 2 := by omega
  rw [e]
  exact Int.mul_ediv_cancel _ (by decide)
theorem tz_high {n s : Int} (hn : 1 ≤ n) (hs : 1 ≤ s) : tz n s ≤ n * (n - 1) / 2 := by
  rw [tz_one_slot hn]
  exact tz_anti2 hn (Int.le_refl _) hs
/-- t over k rounds is a line -/
theorem tz_line {n m s k : Int} (hm : 1 ≤ m) (hs : 1 ≤ s) (hk : 0 ≤ k) (h1 : Rz s (k - 1) ≤ m) (h2 : m ≤ n) (h3 : n ≤ Rz s k) : tz n s = tz m s + k * (n - m) := by
  rw [tz_at (n := n) (by omega) hs hk (by omega) h3, tz_at (n := m) hm hs hk h1 (by omega)]
  unfold lin
  rw [Int.mul_sub]
  omega
theorem hiz_best {n s : Int} (hn : 2 ≤ n) (hs : 2 ≤ s) : Best n s (hiz n s) := by
  obtain ⟨a, b, c⟩ := loz_range hn hs
  exact (best_iff hn hs (by omega) c).mpr ⟨b, Int.le_refl _⟩
theorem loz_best {n s : Int} (hn : 2 ≤ n) (hs : 2 ≤ s) : Best n s (loz n s) := by
  obtain ⟨a, b, c⟩ := loz_range hn hs
  exact (best_iff hn hs a (by omega)).mpr ⟨Int.le_refl _, b⟩
end Bs

namespace Bs
theorem rho_mono {n n' s : Int} (hn : 1 ≤ n) (h : n ≤ n') (hs : 1 ≤ s) : rho n s ≤ rho n' s := by
  have a := rho_reach (n := n') (s := s) hs
  have b := rho_nonneg n' s
  by_cases q : rho n' s < rho n s
  · have := rho_least (n := n) (s := s) (q := rho n' s) hn hs (by omega) q
    omega
  · omega
theorem fz_step {n s m : Int} (hs : 2 ≤ s) (h1 : 1 ≤ m) (h2 : m + 1 < n) : fz n s (m + 1) - fz n s m = 1 - rho (n - m) (s - 1) + rho (m + 1) s := by
  have a := tz_succ (n := n - m - 1) (s := s - 1) (by omega) (by omega)
  have b := tz_succ (n := m) (s := s) (by omega) (by omega)
  rw [show n - m - 1 + 1 = n - m by omega] at a
  unfold fz
  rw [show n - (m + 1) = n - m - 1 by omega]
  omega
theorem fz_slope {n s m k : Int} (hs : 2 ≤ s) (h1 : 1 ≤ m) (h : m ≤ k) (h2 : k + 1 < n) : fz n s (m + 1) - fz n s m ≤ fz n s (k + 1) - fz n s k := by
  rw [fz_step hs h1 (by omega), fz_step hs (by omega) h2]
  have := rho_mono (n := n - k) (n' := n - m) (s := s - 1) (by omega) (by omega) (by omega)
  have := rho_mono (n := m + 1) (n' := k + 1) (s := s) (by omega) (by omega) (by omega)
  omega
theorem fz_up {n s m : Int} (hs : 2 ≤ s) (h1 : 1 ≤ m) (hd : 1 ≤ fz n s (m + 1) - fz n s m) : ∀ d : Nat, m + d < n → fz n s m + d ≤ fz n s (m + d)
  | 0, _ => by simp
  | d + 1, h => by
    have a := fz_up hs h1 hd d (by omega)
    have b := fz_slope (n := n) (s := s) (m := m) (k := m + d) hs h1 (by omega) (by omega)
    rw [show m + ((d + 1 : Nat) : Int) = m + d + 1 by omega]
    omega
theorem fz_down {n s m : Int} (hs : 2 ≤ s) (hm : m + 1 < n) (hd : fz n s (m + 1) - fz n s m ≤ -1) : ∀ d : Nat, 1 ≤ m - d → fz n s m + d ≤ fz n s (m - d)
  | 0, _ => by simp
  | d + 1, h => by
    have a := fz_down hs hm hd d (by omega)
    have b := fz_slope (n := n) (s := s) (m := m - d - 1) (k := m) hs (by omega) (by omega) (by omega)
    rw [show m - ((d + 1 : Nat) : Int) = m - d - 1 by omega]
    rw [show m - (d : Int) - 1 + 1 = m - d by omega] at b
    omega
/-- towards the stretch it is no greater -/
theorem fz_left {n s m : Int} (hn : 2 ≤ n) (hs : 2 ≤ s) (h1 : 1 ≤ m) (h : m < loz n s) : fz n s (m + 1) ≤ fz n s m := by
  obtain ⟨a, b, c⟩ := loz_range hn hs
  by_cases q : fz n s (m + 1) ≤ fz n s m
  · exact q
  · have u := fz_up (n := n) (s := s) (m := m) hs h1 (by omega) (loz n s - m).toNat (by omega)
    rw [show m + ((loz n s - m).toNat : Int) = loz n s by omega, tz_best hs a (by omega) (loz_best hn hs)] at u
    have := tz_le_fz (n := n) (s := s) (m := m) hs h1 (by omega)
    omega
theorem fz_right {n s m : Int} (hn : 2 ≤ n) (hs : 2 ≤ s) (h1 : m < n) (h : hiz n s < m) : fz n s (m - 1) ≤ fz n s m := by
  obtain ⟨a, b, c⟩ := loz_range hn hs
  by_cases q : fz n s (m - 1) ≤ fz n s m
  · exact q
  · have u := fz_down (n := n) (s := s) (m := m - 1) hs (by omega) (by rw [show m - 1 + 1 = m by omega]; omega) (m - 1 - hiz n s).toNat (by omega)
    rw [show m - 1 - ((m - 1 - hiz n s).toNat : Int) = hiz n s by omega, tz_best hs (by omega) (by omega) (hiz_best hn hs)] at u
    have := tz_le_fz (n := n) (s := s) (m := m) hs (by omega) h1
    omega
/-- what the law asks of a split -/
theorem loss_zero {n s m : Int} (hn : 2 ≤ n) (hs : 2 ≤ s) (h1 : 1 ≤ m) (h2 : m < n) : fz n s m - tz n s = 0 ↔ loz n s ≤ m ∧ m ≤ hiz n s := by
  rw [← best_iff hn hs h1 h2]
  by_cases b : Best n s m
  · have := tz_best hs h1 h2 b
    exact ⟨fun _ => b, fun _ => by omega⟩
  · have := tz_lt_fz hs h1 h2 b
    exact ⟨fun _ => by omega, fun k => absurd k b⟩
theorem tz_cap {n s : Int} (hn : 1 ≤ n) (h2 : n ≤ 10 ^ 30) (hs : 1 ≤ s) : 0 ≤ tz n s ∧ tz n s ≤ 10 ^ 60 := by
  have a := tz_nonneg (n := n) (s := s) hn hs
  have b := tz_high (n := n) (s := s) hn hs
  have c : n * n ≤ 10 ^ 60 := calc
    n * n ≤ 10 ^ 30 * 10 ^ 30 := Int.mul_le_mul h2 h2 (by omega) (by decide)
    _ = 10 ^ 60 := by decide
  have e : n * (n - 1) = n * n - n := by rw [Int.mul_sub, Int.mul_one]
  omega
theorem fz_cap {n s m : Int} (hs : 2 ≤ s) (h1 : 1 ≤ m) (h2 : m < n) (h3 : n ≤ 10 ^ 30) : 0 ≤ fz n s m - tz n s ∧ fz n s m - tz n s ≤ 10 ^ 62 := by
  have a := tz_cap (n := n) (s := s) (by omega) h3 (by omega)
  have b := tz_cap (n := m) (s := s) (by omega) (by omega) (by omega)
  have c := tz_cap (n := n - m) (s := s - 1) (by omega) (by omega) (by omega)
  have d := tz_le_fz (n := n) (s := s) (m := m) hs h1 h2
  unfold fz at *
  omega
def tt (n s : Nat) : Int := if n = 0 then 0 else tz n s
theorem tt_one (s : Nat) (h : 1 ≤ s) : tt 1 s = 0 := by unfold tt; rw [if_neg (by decide)]; exact tz_one (by omega)
theorem tt_slot1 (n : Nat) : (n : Int) * ((n : Int) - 1) / 2 = tt n 1 := by
  unfold tt
  by_cases h : n = 0
  · subst h; rfl
  · rw [if_neg h]
    have := tz_slot1 (n := (n : Int)) (by omega)
    have e : (n : Int) * ((n : Int) - 1) = tz n 1 * 2 := by rw [← this, Int.mul_comm]
    rw [e]
    exact Int.mul_ediv_cancel _ (by decide)
/-- the splits of n states, s slots: what they cost -/
def splitV (n s : Nat) : List Int := (List.range (n - 1)).map fun (i : Nat) => 1 + (i : Int) + tt (n - (i + 1)) (s - 1) + tt (i + 1) s
theorem splitV_min {n s : Nat} (hn : 2 ≤ n) (hs : 2 ≤ s) {m : Int} (h1 : m ∈ splitV n s) (h2 : ∀ y, y ∈ splitV n s → m ≤ y) : m = tt n s := by
  have e : tt n s = tz n s := by unfold tt; rw [if_neg (by omega)]
  have cost : ∀ i : Nat, i < n - 1 → 1 + (i : Int) + tt (n - (i + 1)) (s - 1) + tt (i + 1) s = fz n s (i + 1 : Nat) := fun i hi => by
    unfold fz tt
    rw [if_neg (by omega), if_neg (by omega), show ((n - (i + 1) : Nat) : Int) = (n : Int) - ((i + 1 : Nat) : Int) by omega, show ((s - 1 : Nat) : Int) = (s : Int) - 1 by omega]
    omega
  rw [e]
  refine Int.le_antisymm ?_ ?_
  · obtain ⟨k, k1, k2, kb⟩ := best_is (n := (n : Int)) (s := (s : Int)) (by omega) (by omega)
    have hk : k = ((k.toNat - 1 + 1 : Nat) : Int) := by omega
    have := h2 (fz n s k) (by
      unfold splitV
      refine List.mem_map.mpr ⟨k.toNat - 1, List.mem_range.mpr (by omega), ?_⟩
      rw [cost _ (by omega), ← hk])
    rw [tz_best (by omega) k1 k2 kb] at this
    exact this
  · unfold splitV at h1
    obtain ⟨i, hi, rfl⟩ := List.mem_map.mp h1
    have hi2 := List.mem_range.mp hi
    rw [cost i hi2]
    exact tz_le_fz (by omega) (by omega) (by omega)
def Rq : Nat → Nat → Nat
  | 0, _ => 1
  | s + 1, r => Rq s r * (s + r + 1) / (s + 1)
theorem R_q : ∀ s r : Nat, R s r = Rq s r
  | 0, r => R_0 r
  | s + 1, r => by
    show R (s + 1) r = Rq s r * (s + r + 1) / (s + 1)
    rw [← R_q s r, ← R_up s r]
    exact (Nat.mul_div_cancel _ (by omega)).symm
theorem Rz_q {s r : Int} (hs : 0 ≤ s) (hr : 0 ≤ r) : Rz s r = (Rq s.toNat r.toNat : Nat) := by rw [Rz_of hs hr, R_q]
theorem first_lost : 0 < fz (10 ^ 30) 100 1 - tz (10 ^ 30) 100 := by
  have e : rho (10 ^ 30) 100 = 31 := rho_eq (by decide) (by decide) (by decide) (by rw [Rz_q (by decide) (by decide)]; decide +kernel) (by rw [Rz_q (by decide) (by decide)]; decide +kernel)
  have b : ¬ Best (10 ^ 30) 100 1 := by
    unfold Best
    rw [e]
    rintro ⟨_, _, _, h⟩
    rw [Rz_q (by decide) (by decide)] at h
    revert h
    decide +kernel
  have := tz_lt_fz (n := 10 ^ 30) (s := 100) (m := 1) (by decide) (by decide) (by decide) b
  omega
end Bs

namespace Bs
/-! ### the latest plan: how many operations, which operation -/
theorem nat_succ {r : Int} (h : 1 ≤ r) : ∃ k : Nat, r = (k : Int) + 1 := ⟨(r - 1).toNat, by omega⟩
theorem Rz_lt {s r : Int} (hs : 1 ≤ s) (hr : 0 ≤ r) : Rz s (r - 1) < Rz s r := by
  by_cases h : r = 0
  · subst h
    rw [show (0 : Int) - 1 = -1 by rfl, Rz_neg (by omega), Rz_r0 (by omega)]
    decide
  · have e := Rz_next (s := s - 1) (r := r) (by omega) (by omega)
    rw [show s - 1 + 1 = s by omega] at e
    by_cases h1 : s = 1
    · subst h1
      rw [Rz_one (by omega), Rz_one (by omega)]
      omega
    · have := Rz_gt (s := s - 1) (r := r) (by omega) hr
      omega
theorem rho_full {s r : Int} (hs : 1 ≤ s) (hr : 0 ≤ r) : rho (Rz s r) s = r :=
  rho_eq (by have := Rz_gt hs hr; omega) hs hr (Int.le_refl _) (Rz_lt hs hr)
theorem rho_slot1 {n : Int} (hn : 1 ≤ n) : rho n 1 = n - 1 :=
  rho_eq hn (by decide) (by omega) (by rw [Rz_one (by omega)]; omega) (by
    by_cases h : n = 1
    · subst h; decide
    · rw [Rz_one (by omega)]; omega)
theorem full_one {s : Int} (hs : 1 ≤ s) : (1 : Int) = Rz s (rho 1 s) := by rw [rho_one hs, Rz_r0 (by omega)]
theorem full_slot1 {n : Int} (hn : 1 ≤ n) : n = Rz 1 (rho n 1) := by rw [rho_slot1 hn, Rz_one (by omega)]; omega
/-- one round less, one slot less, by division -/
theorem term_less {s r : Int} (hs : 1 ≤ s) (hr : 0 ≤ r) : Rz s r * r / (s + r) = Rz s (r - 1) := by
  by_cases h : r = 0
  · subst h
    rw [show (0 : Int) - 1 = -1 by rfl, Rz_neg (by omega), Int.mul_zero, Int.zero_ediv]
  · obtain ⟨k, rfl⟩ := nat_succ (show 1 ≤ r by omega)
    obtain ⟨j, rfl⟩ := Int.eq_ofNat_of_zero_le (show 0 ≤ s by omega)
    rw [show (k : Int) + 1 - 1 = (k : Int) by omega, show (k : Int) + 1 = ((k + 1 : Nat) : Int) by omega, Rz_nat, Rz_nat]
    have e := R_right j k
    have e2 : ((R j (k + 1) : Nat) : Int) * ((k + 1 : Nat) : Int) = ((R j k : Nat) : Int) * ((j : Int) + ((k + 1 : Nat) : Int)) := by
      have e3 : ((R j (k + 1) * (k + 1) : Nat) : Int) = ((R j k * (j + k + 1) : Nat) : Int) := by rw [e]
      rw [Int.natCast_mul, Int.natCast_mul] at e3
      rw [e3, show (j : Int) + ((k + 1 : Nat) : Int) = ((j + k + 1 : Nat) : Int) by omega]
    rw [e2]
    exact Int.mul_ediv_cancel _ (by omega)
theorem term_slots {s r : Int} (hs : 1 ≤ s) (hr : 0 ≤ r) : Rz s r * s / (s + r) = Rz (s - 1) r := by
  obtain ⟨j, rfl⟩ := nat_succ hs
  obtain ⟨k, rfl⟩ := Int.eq_ofNat_of_zero_le hr
  rw [show (j : Int) + 1 - 1 = (j : Int) by omega, show (j : Int) + 1 = ((j + 1 : Nat) : Int) by omega, Rz_nat, Rz_nat]
  have e := R_up j k
  have e2 : ((R (j + 1) k : Nat) : Int) * ((j + 1 : Nat) : Int) = ((R j k : Nat) : Int) * (((j + 1 : Nat) : Int) + (k : Int)) := by
    have e3 : ((R (j + 1) k * (j + 1) : Nat) : Int) = ((R j k * (j + k + 1) : Nat) : Int) := by rw [e]
    rw [Int.natCast_mul, Int.natCast_mul] at e3
    rw [e3, show ((j + 1 : Nat) : Int) + (k : Int) = ((j + k + 1 : Nat) : Int) by omega]
  rw [e2]
  exact Int.mul_ediv_cancel _ (by omega)
/-- operations of the plan of n states with s slots -/
def opsN (n s : Int) : Int :=
  if h : 2 ≤ n ∧ 2 ≤ s then (if n - hiz n s > 1 then 4 else 2) + opsN (n - hiz n s) (s - 1) + opsN (hiz n s) s else 3 * n - 2
termination_by n.toNat
decreasing_by all_goals (have := loz_range h.1 h.2; omega)
theorem opsN_row {n s : Int} (h : n < 2 ∨ s < 2) : opsN n s = 3 * n - 2 := by
  rw [opsN, dif_neg (by omega)]
theorem opsN_two {n s : Int} (hn : 2 ≤ n) (hs : 2 ≤ s) : opsN n s = (if n - hiz n s > 1 then 4 else 2) + opsN (n - hiz n s) (s - 1) + opsN (hiz n s) s := by
  rw [opsN, dif_pos ⟨hn, hs⟩]
/-- a plan's parts, for proofs about all plans -/
theorem plan_ind {M : Int → Int → Prop} (row : ∀ n s, 1 ≤ n → 1 ≤ s → (n < 2 ∨ s < 2) → M n s)
    (two : ∀ n s, 2 ≤ n → 2 ≤ s → M (n - hiz n s) (s - 1) → M (hiz n s) s → M n s) : ∀ n s : Int, 1 ≤ n → 1 ≤ s → M n s := by
  have main : ∀ k : Nat, ∀ n s : Int, n.toNat ≤ k → 1 ≤ n → 1 ≤ s → M n s := by
    intro k
    induction k with
    | zero => intro n s h hn hs; omega
    | succ k ih =>
      intro n s h hn hs
      by_cases q : n < 2 ∨ s < 2
      · exact row n s hn hs q
      · obtain ⟨a, b, c⟩ := loz_range (n := n) (s := s) (by omega) (by omega)
        exact two n s (by omega) (by omega) (ih _ _ (by omega) (by omega) (by omega)) (ih _ _ (by omega) (by omega) (by omega))
  exact fun n s hn hs => main n.toNat n s (Nat.le_refl _) hn hs
theorem opsN_ge : ∀ n s : Int, 1 ≤ n → 1 ≤ s → n ≤ opsN n s ∧ opsN n s ≤ 5 * n - 4 := by
  refine plan_ind (fun n s hn hs h => by rw [opsN_row h]; omega) (fun n s hn hs a b => ?_)
  rw [opsN_two hn hs]
  obtain ⟨r1, r2, r3⟩ := loz_range hn hs
  split <;> omega
/-- the split where the rounds reach just so many -/
theorem hiz_full {s r : Int} (hs : 2 ≤ s) (hr : 1 ≤ r) : hiz (Rz s r) s = Rz s (r - 1) := by
  unfold hiz
  rw [rho_full (by omega) (by omega)]
  have e := Rz_next (s := s - 1) (r := r) (by omega) (by omega)
  rw [show s - 1 + 1 = s by omega] at e
  have g := Rz_gt (s := s - 1) (r := r) (by omega) (by omega)
  have m := Rz_mono (s := s - 1) (r := r - 1) (r' := r) (by omega) (by omega) (by omega)
  omega
theorem opsN_full : ∀ (j k : Nat), opsN (Rz (j + 1 : Nat) k) (j + 1 : Nat) = 3 * Rz (j + 1 : Nat) k + 2 * Rz j k - 4
  | 0, k => by
    rw [opsN_row (.inr (by omega))]
    show 3 * Rz 1 k - 2 = 3 * Rz 1 k + 2 * Rz 0 k - 4
    rw [Rz_zero]
    omega
  | j + 1, 0 => by
    rw [show ((0 : Nat) : Int) = 0 by rfl, Rz_r0 (by omega), Rz_r0 (by omega), opsN_row (.inl (by omega))]
    rfl
  | j + 1, k + 1 => by
    have a := opsN_full j (k + 1)
    have b := opsN_full (j + 1) k
    have e := Rz_next (s := ((j + 1 : Nat) : Int)) (r := ((k + 1 : Nat) : Int)) (by omega) (by omega)
    have e2 := Rz_next (s := (j : Int)) (r := ((k + 1 : Nat) : Int)) (by omega) (by omega)
    have g := Rz_gt (s := ((j + 1 : Nat) : Int)) (r := ((k + 1 : Nat) : Int)) (by omega) (by omega)
    have g2 := Rz_gt (s := ((j + 1 + 1 : Nat) : Int)) (r := (k : Int)) (by omega) (by omega)
    rw [show ((j + 1 : Nat) : Int) + 1 = ((j + 1 + 1 : Nat) : Int) by omega, show ((k + 1 : Nat) : Int) - 1 = (k : Int) by omega] at e
    rw [show (j : Int) + 1 = ((j + 1 : Nat) : Int) by omega, show ((k + 1 : Nat) : Int) - 1 = (k : Int) by omega] at e2
    have hz := hiz_full (s := ((j + 1 + 1 : Nat) : Int)) (r := ((k + 1 : Nat) : Int)) (by omega) (by omega)
    rw [show ((k + 1 : Nat) : Int) - 1 = (k : Int) by omega] at hz
    rw [opsN_two (by omega) (by omega), hz, show Rz ((j + 1 + 1 : Nat) : Int) ((k + 1 : Nat) : Int) - Rz ((j + 1 + 1 : Nat) : Int) (k : Int) = Rz ((j + 1 : Nat) : Int) ((k + 1 : Nat) : Int) by omega,
      if_pos (by omega), show ((j + 1 + 1 : Nat) : Int) - 1 = ((j + 1 : Nat) : Int) by omega, a, b]
    omega
/-- the count of a part that its rounds reach just -/
theorem opsN_closed {s r : Int} (hs : 1 ≤ s) (hr : 0 ≤ r) : opsN (Rz s r) s = 3 * Rz s r + 2 * Rz (s - 1) r - 4 := by
  obtain ⟨j, rfl⟩ := nat_succ hs
  obtain ⟨k, rfl⟩ := Int.eq_ofNat_of_zero_le hr
  have := opsN_full j k
  rw [show (j : Int) + 1 - 1 = (j : Int) by omega, show (j : Int) + 1 = ((j + 1 : Nat) : Int) by omega]
  exact this
/-! parts of a plan: rounds and reaches -/
/-- its rounds reach just so many -/
def Full (n s : Int) : Prop := n = Rz s (rho n s)
instance {n s : Int} : Decidable (Full n s) := by unfold Full; infer_instance
theorem full_of {s r : Int} (hs : 1 ≤ s) (hr : 0 ≤ r) {n : Int} (h : n = Rz s r) : Full n s := by
  unfold Full
  rw [h, rho_full hs hr]
theorem rest_rho {n s : Int} (hn : 2 ≤ n) (hs : 2 ≤ s) : rho (n - hiz n s) (s - 1) = if n - hiz n s = Rz (s - 1) (rho n s - 1) then rho n s - 1 else rho n s := by
  have hr := rho_pos (n := n) (s := s) hn (by omega)
  obtain ⟨a, b, c⟩ := loz_range hn hs
  obtain ⟨b1, b2, b3, b4⟩ := hiz_best hn hs
  split
  · rename_i h
    rw [h, rho_full (by omega) (by omega)]
  · exact rho_eq (by omega) (by omega) (by omega) b4 (by omega)
theorem ahead_rho {n s : Int} (hn : 2 ≤ n) (hs : 2 ≤ s) : rho (hiz n s) s = if hiz n s = Rz s (rho n s - 2) then rho n s - 2 else rho n s - 1 := by
  have hr := rho_pos (n := n) (s := s) hn (by omega)
  obtain ⟨a, b, c⟩ := loz_range hn hs
  obtain ⟨b1, b2, b3, b4⟩ := hiz_best hn hs
  split
  · rename_i h
    have h2 : 0 ≤ rho n s - 2 := by
      by_cases q : rho n s = 1
      · rw [q, show (1 : Int) - 2 = -1 by rfl, Rz_neg (by omega)] at h
        omega
      · omega
    rw [h, rho_full (by omega) h2]
  · exact rho_eq (by omega) (by omega) (by omega) b2 (by rw [show rho n s - 1 - 1 = rho n s - 2 by omega]; omega)
/-- one of both parts is told at once -/
theorem one_full {n s : Int} (hn : 2 ≤ n) (hs : 2 ≤ s) : Full (n - hiz n s) (s - 1) ∨ Full (hiz n s) s := by
  have hr := rho_pos (n := n) (s := s) hn (by omega)
  have h : hiz n s = n - 1 ∨ hiz n s = Rz s (rho n s - 1) ∨ n - hiz n s = Rz (s - 1) (rho n s - 1) := by unfold hiz; omega
  rcases h with h | h | h
  · left
    rw [show n - hiz n s = 1 by omega]
    exact full_one (by omega)
  · exact .inr (full_of (by omega) (by omega) h)
  · exact .inl (full_of (by omega) (by omega) h)
theorem full_row {n s : Int} (hn : 1 ≤ n) (hs : 1 ≤ s) (h : n < 2 ∨ s < 2) : Full n s := by
  rcases h with h | h
  · rw [show n = 1 by omega]; exact full_one hs
  · rw [show s = 1 by omega]; exact full_slot1 hn
/-- behind and ahead, as the code tells them: (states, slots, rounds, reached) -/
def restT (n s : Int) : List Int := if n - hiz n s = Rz (s - 1) (rho n s - 1) then [Rz (s - 1) (rho n s - 1), s - 1, rho n s - 1, Rz (s - 1) (rho n s - 1)] else [n - hiz n s, s - 1, rho n s, Rz (s - 1) (rho n s)]
def aheadT (n s : Int) : List Int := if hiz n s = Rz s (rho n s - 2) then [Rz s (rho n s - 2), s, rho n s - 2, Rz s (rho n s - 2)] else [hiz n s, s, rho n s - 1, Rz s (rho n s - 1)]
def partT (n s : Int) : List Int := [n, s, rho n s, Rz s (rho n s)]
theorem restT_eq {n s : Int} (hn : 2 ≤ n) (hs : 2 ≤ s) : restT n s = partT (n - hiz n s) (s - 1) := by
  unfold restT partT
  rw [rest_rho hn hs]
  split
  · rename_i h
    rw [← h]
  · rfl
theorem aheadT_eq {n s : Int} (hn : 2 ≤ n) (hs : 2 ≤ s) : aheadT n s = partT (hiz n s) s := by
  unfold aheadT partT
  rw [ahead_rho hn hs]
  split
  · rename_i h
    rw [← h]
  · rfl
/-! ### operations, by number -/
inductive Op where
  | go (k : Int) | keep | take (m : Int) | free (m : Int) | back
/-- one slot more is taken if more than one state is behind the split -/
def kp (n s : Int) : Int := if n - hiz n s > 1 then 1 else 0
def rowOp (b n i : Int) : Op := if i / 3 = n - 1 ∨ i % 3 = 1 then .back else if i % 3 = 0 then .go (n - 1 - i / 3) else .take b
def opAt (n s b i : Int) : Op :=
  if h : 2 ≤ n ∧ 2 ≤ s then
    if i = 0 then .go (hiz n s)
    else if i = 1 ∧ kp n s = 1 then .keep
    else if i - (1 + kp n s) < opsN (n - hiz n s) (s - 1) then opAt (n - hiz n s) (s - 1) (b + hiz n s) (i - (1 + kp n s))
    else if i - (1 + kp n s) = opsN (n - hiz n s) (s - 1) ∧ kp n s = 1 then .free (b + hiz n s)
    else if i - (1 + kp n s) = opsN (n - hiz n s) (s - 1) + kp n s then .take b
    else opAt (hiz n s) s b (i - (1 + kp n s) - opsN (n - hiz n s) (s - 1) - kp n s - 1)
  else rowOp b n i
termination_by n.toNat
decreasing_by all_goals (have := loz_range h.1 h.2; omega)
theorem opAt_row {n s b i : Int} (h : n < 2 ∨ s < 2) : opAt n s b i = rowOp b n i := by
  rw [opAt, dif_neg (by omega)]
theorem opAt_two {n s b i : Int} (hn : 2 ≤ n) (hs : 2 ≤ s) : opAt n s b i = if i = 0 then .go (hiz n s)
    else if i = 1 ∧ kp n s = 1 then .keep
    else if i - (1 + kp n s) < opsN (n - hiz n s) (s - 1) then opAt (n - hiz n s) (s - 1) (b + hiz n s) (i - (1 + kp n s))
    else if i - (1 + kp n s) = opsN (n - hiz n s) (s - 1) ∧ kp n s = 1 then .free (b + hiz n s)
    else if i - (1 + kp n s) = opsN (n - hiz n s) (s - 1) + kp n s then .take b
    else opAt (hiz n s) s b (i - (1 + kp n s) - opsN (n - hiz n s) (s - 1) - kp n s - 1) := by
  rw [opAt, dif_pos ⟨hn, hs⟩]
theorem opsN_kp {n s : Int} (hn : 2 ≤ n) (hs : 2 ≤ s) : opsN n s = 2 + 2 * kp n s + opsN (n - hiz n s) (s - 1) + opsN (hiz n s) s := by
  rw [opsN_two hn hs]
  unfold kp
  split <;> omega
/-- states moved on -/
def Op.moved (d : Int) : Op → Op
  | .take m => .take (m + d)
  | .free m => .free (m + d)
  | o => o
theorem opAt_moved : ∀ n s : Int, 1 ≤ n → 1 ≤ s → ∀ b d i, opAt n s (b + d) i = (opAt n s b i).moved d := by
  refine plan_ind (fun n s hn hs h b d i => ?_) (fun n s hn hs ih1 ih2 b d i => ?_)
  · rw [opAt_row h, opAt_row h]
    unfold rowOp
    split
    · rfl
    · split <;> rfl
  · rw [opAt_two hn hs, opAt_two hn hs, show b + d + hiz n s = b + hiz n s + d by omega, ih1, ih2]
    split
    · rfl
    · split
      · rfl
      · split
        · rfl
        · split
          · rfl
          · split <;> rfl
/-! ### backs, goes, most -/
theorem kp_01 (n s : Int) : kp n s = 0 ∨ kp n s = 1 := by unfold kp; split <;> simp
def backAt (n s x : Int) : Int :=
  if h : 2 ≤ n ∧ 2 ≤ s then
    if hiz n s ≤ x then 1 + kp n s + backAt (n - hiz n s) (s - 1) (x - hiz n s)
    else 2 + 2 * kp n s + opsN (n - hiz n s) (s - 1) + backAt (hiz n s) s x
  else 3 * (n - 1 - x) + (if n - 1 - x < n - 1 then 1 else 0)
termination_by n.toNat
decreasing_by all_goals (have := loz_range h.1 h.2; omega)
theorem backAt_row {n s x : Int} (h : n < 2 ∨ s < 2) : backAt n s x = 3 * (n - 1 - x) + (if n - 1 - x < n - 1 then 1 else 0) := by
  rw [backAt, dif_neg (by omega)]
theorem backAt_two {n s x : Int} (hn : 2 ≤ n) (hs : 2 ≤ s) : backAt n s x = if hiz n s ≤ x then 1 + kp n s + backAt (n - hiz n s) (s - 1) (x - hiz n s)
    else 2 + 2 * kp n s + opsN (n - hiz n s) (s - 1) + backAt (hiz n s) s x := by
  rw [backAt, dif_pos ⟨hn, hs⟩]
def goesL (n s x c : Int) : List (Int × Int × Int) :=
  if h : 2 ≤ n ∧ 2 ≤ s then
    if hiz n s ≤ x then goesL (n - hiz n s) (s - 1) (x - hiz n s) (c + (1 + kp n s))
    else (c, 1, 0) :: (if x = hiz n s - 1 then [] else goesL (hiz n s) s x (c + (2 + 2 * kp n s + opsN (n - hiz n s) (s - 1))))
  else [(c, n - 1 - x, 3)]
termination_by n.toNat
decreasing_by all_goals (have := loz_range h.1 h.2; omega)
theorem goesL_row {n s x c : Int} (h : n < 2 ∨ s < 2) : goesL n s x c = [(c, n - 1 - x, 3)] := by
  rw [goesL, dif_neg (by omega)]
theorem goesL_two {n s x c : Int} (hn : 2 ≤ n) (hs : 2 ≤ s) : goesL n s x c = if hiz n s ≤ x then goesL (n - hiz n s) (s - 1) (x - hiz n s) (c + (1 + kp n s))
    else (c, 1, 0) :: (if x = hiz n s - 1 then [] else goesL (hiz n s) s x (c + (2 + 2 * kp n s + opsN (n - hiz n s) (s - 1)))) := by
  rw [goesL, dif_pos ⟨hn, hs⟩]
def timesD (n s x : Int) : Int :=
  if h : 2 ≤ n ∧ 2 ≤ s then
    if hiz n s ≤ x then timesD (n - hiz n s) (s - 1) (x - hiz n s)
    else 1 + (if x = hiz n s - 1 then 0 else timesD (hiz n s) s x)
  else n - 1 - x
termination_by n.toNat
decreasing_by all_goals (have := loz_range h.1 h.2; omega)
theorem timesD_row {n s x : Int} (h : n < 2 ∨ s < 2) : timesD n s x = n - 1 - x := by
  rw [timesD, dif_neg (by omega)]
theorem timesD_two {n s x : Int} (hn : 2 ≤ n) (hs : 2 ≤ s) : timesD n s x = if hiz n s ≤ x then timesD (n - hiz n s) (s - 1) (x - hiz n s)
    else 1 + (if x = hiz n s - 1 then 0 else timesD (hiz n s) s x) := by
  rw [timesD, dif_pos ⟨hn, hs⟩]
theorem goes_sum : ∀ n s : Int, 1 ≤ n → 1 ≤ s → ∀ x c, ((goesL n s x c).map fun g => g.2.1).sum = timesD n s x := by
  refine plan_ind (fun n s hn hs h x c => ?_) (fun n s hn hs ih1 ih2 x c => ?_)
  · rw [goesL_row h, timesD_row h]; simp
  · rw [goesL_two hn hs, timesD_two hn hs]
    split
    · exact ih1 _ _
    · rw [List.map_cons, List.sum_cons]
      congr 1
      split
      · rfl
      · exact ih2 _ _
def pickG : List (Int × Int × Int) → Int → Option Int
  | [], _ => none
  | g :: r, k => if k < g.2.1 then some (g.1 + k * g.2.2) else pickG r (k - g.2.1)
def goAt (n s x k : Int) : Option Int := pickG (goesL n s x 0) k
theorem pick_shift : ∀ n s : Int, 1 ≤ n → 1 ≤ s → ∀ x c d k, pickG (goesL n s x (c + d)) k = (pickG (goesL n s x c) k).map (· + d) := by
  refine plan_ind (fun n s hn hs h x c d k => ?_) (fun n s hn hs ih1 ih2 x c d k => ?_)
  · rw [goesL_row h, goesL_row h]
    unfold pickG
    split
    · simp only [Option.map_some]; congr 1; omega
    · rfl
  · rw [goesL_two hn hs, goesL_two hn hs]
    split
    · rw [show c + d + (1 + kp n s) = c + (1 + kp n s) + d by omega]
      exact ih1 _ _ _ _
    · unfold pickG
      split
      · simp only [Option.map_some]; congr 1; omega
      · split
        · rfl
        · rw [show c + d + (2 + 2 * kp n s + opsN (n - hiz n s) (s - 1)) = c + (2 + 2 * kp n s + opsN (n - hiz n s) (s - 1)) + d by omega]
          exact ih2 _ _ _ _
theorem pick_some : ∀ (l : List (Int × Int × Int)) (k : Int), 0 ≤ k → k < (l.map fun g => g.2.1).sum → ∃ v, pickG l k = some v
  | [], k, h0, h => by simp at h; omega
  | g :: r, k, h0, h => by
    unfold pickG
    split
    · exact ⟨_, rfl⟩
    · rw [List.map_cons, List.sum_cons] at h
      exact pick_some r _ (by omega) (by omega)
/-- the part with the most rounds -/
theorem rounds_max {n s : Int} (hn : 2 ≤ n) (hs : 2 ≤ s) : (rho (hiz n s) s = rho n s - 1 ∨ rho (n - hiz n s) (s - 1) = rho n s) ∧ rho (hiz n s) s ≤ rho n s - 1 ∧ rho (n - hiz n s) (s - 1) ≤ rho n s := by
  have a := ahead_rho hn hs
  have b := rest_rho hn hs
  have hr := rho_pos (n := n) (s := s) hn (by omega)
  have l := rho_least (n := n) (s := s) (q := rho n s - 1) (by omega) (by omega) (by omega) (by omega)
  have e := Rz_next (s := s - 1) (r := rho n s - 1) (by omega) (by omega)
  rw [show s - 1 + 1 = s by omega, show rho n s - 1 - 1 = rho n s - 2 by omega] at e
  by_cases h1 : hiz n s = Rz s (rho n s - 2)
  · rw [if_pos h1] at a
    by_cases h2 : n - hiz n s = Rz (s - 1) (rho n s - 1)
    · omega
    · rw [if_neg h2] at b
      omega
  · rw [if_neg h1] at a
    refine ⟨.inl a, by omega, ?_⟩
    rw [b]
    split <;> omega
def mostAt (n s b : Int) : Int :=
  if h : 2 ≤ n ∧ 2 ≤ s then
    if hiz n s > 1 ∧ rho (hiz n s) s = rho n s - 1 then mostAt (hiz n s) s b
    else if rho n s = 1 ∧ hiz n s = 1 then b
    else mostAt (n - hiz n s) (s - 1) (b + hiz n s)
  else b
termination_by n.toNat
decreasing_by all_goals (have := loz_range h.1 h.2; omega)
theorem mostAt_row {n s b : Int} (h : n < 2 ∨ s < 2) : mostAt n s b = b := by
  rw [mostAt, dif_neg (by omega)]
theorem mostAt_two {n s b : Int} (hn : 2 ≤ n) (hs : 2 ≤ s) : mostAt n s b = if hiz n s > 1 ∧ rho (hiz n s) s = rho n s - 1 then mostAt (hiz n s) s b
    else if rho n s = 1 ∧ hiz n s = 1 then b else mostAt (n - hiz n s) (s - 1) (b + hiz n s) := by
  rw [mostAt, dif_pos ⟨hn, hs⟩]
theorem most_rest {n s : Int} (hn : 2 ≤ n) (hs : 2 ≤ s) (h1 : ¬ (hiz n s > 1 ∧ rho (hiz n s) s = rho n s - 1)) (h2 : ¬ (rho n s = 1 ∧ hiz n s = 1)) : rho (n - hiz n s) (s - 1) = rho n s := by
  obtain ⟨a, b, c⟩ := rounds_max hn hs
  obtain ⟨l1, l2, l3⟩ := loz_range hn hs
  rcases a with a | a
  · have e : hiz n s = 1 := by omega
    have := rho_one (s := s) (by omega)
    rw [e] at a
    exact absurd ⟨by omega, e⟩ h2
  · exact a
theorem goes_in : ∀ n s : Int, 1 ≤ n → 1 ≤ s → ∀ x c, x ≤ n - 1 → ∀ g ∈ goesL n s x c, 0 ≤ g.2.1 ∧ 0 ≤ g.2.2 ∧ g.2.2 ≤ 3 := by
  refine plan_ind (fun n s hn hs h x c hx g hg => ?_) (fun n s hn hs ih1 ih2 x c hx g hg => ?_)
  · rw [goesL_row h] at hg
    rw [List.mem_singleton.mp hg]
    exact ⟨by show 0 ≤ n - 1 - x; omega, show (0 : Int) ≤ 3 by decide, show (3 : Int) ≤ 3 by decide⟩
  · rw [goesL_two hn hs] at hg
    split at hg
    · exact ih1 _ _ (by omega) g hg
    · rename_i h1
      rcases List.mem_cons.mp hg with h | h
      · rw [h]; exact ⟨show (0 : Int) ≤ 1 by decide, show (0 : Int) ≤ 0 by decide, show (0 : Int) ≤ 3 by decide⟩
      · split at h
        · cases h
        · exact ih2 _ _ (by omega) g h
theorem goes_len : ∀ n s : Int, 1 ≤ n → 1 ≤ s → ∀ x c, ((goesL n s x c).length : Int) ≤ rho n s + 1 := by
  refine plan_ind (fun n s hn hs h x c => ?_) (fun n s hn hs ih1 ih2 x c => ?_)
  · rw [goesL_row h]
    have := rho_nonneg n s
    show (1 : Int) ≤ _
    omega
  · rw [goesL_two hn hs]
    obtain ⟨a, b, c'⟩ := rounds_max hn hs
    split
    · have := ih1 (x - hiz n s) (c + (1 + kp n s)); omega
    · rw [List.length_cons]
      split
      · have := rho_pos (n := n) (s := s) hn (by omega)
        show ((0 + 1 : Nat) : Int) ≤ _
        omega
      · have := ih2 x (c + (2 + 2 * kp n s + opsN (n - hiz n s) (s - 1)))
        omega
theorem times_in : ∀ n s : Int, 1 ≤ n → 1 ≤ s → ∀ x, 0 ≤ x → x < n - 1 → 1 ≤ timesD n s x ∧ timesD n s x ≤ rho n s := by
  refine plan_ind (fun n s hn hs h x h0 h1 => ?_) (fun n s hn hs ih1 ih2 x h0 h1 => ?_)
  · rw [timesD_row h]
    have e : s = 1 := by omega
    subst e
    rw [rho_slot1 hn]
    omega
  · rw [timesD_two hn hs]
    obtain ⟨a, b, c⟩ := rounds_max hn hs
    split
    · have := ih1 (x - hiz n s) (by omega) (by omega)
      omega
    · split
      · have := rho_pos (n := n) (s := s) hn (by omega)
        omega
      · have := ih2 x h0 (by omega)
        omega
/-- the number of an operation -/
def Op.num : Op → Int
  | .go k => k
  | .take m => m
  | .free m => m
  | _ => 0
theorem opAt_num : ∀ n s : Int, 1 ≤ n → 1 ≤ s → ∀ b i, 0 ≤ b → 0 ≤ i → i < opsN n s → 0 ≤ (opAt n s b i).num ∧ (opAt n s b i).num ≤ b + n := by
  refine plan_ind (fun n s hn hs h b i hb h0 h1 => ?_) (fun n s hn hs ih1 ih2 b i hb h0 h1 => ?_)
  · rw [opsN_row h] at h1
    rw [opAt_row h]
    unfold rowOp
    split
    · exact ⟨by show (0 : Int) ≤ 0; omega, by show (0 : Int) ≤ b + n; omega⟩
    · split
      · exact ⟨by show 0 ≤ n - 1 - i / 3; omega, by show n - 1 - i / 3 ≤ b + n; omega⟩
      · exact ⟨hb, by show b ≤ b + n; omega⟩
  · obtain ⟨l1, l2, l3⟩ := loz_range hn hs
    have ek := opsN_kp hn hs
    have k01 := kp_01 n s
    rw [opAt_two hn hs]
    split
    · exact ⟨by show 0 ≤ hiz n s; omega, by show hiz n s ≤ b + n; omega⟩
    · split
      · exact ⟨by show (0 : Int) ≤ 0; omega, by show (0 : Int) ≤ b + n; omega⟩
      · split
        · have := ih1 (b + hiz n s) (i - (1 + kp n s)) (by omega) (by omega) (by omega)
          omega
        · split
          · exact ⟨by show 0 ≤ b + hiz n s; omega, by show b + hiz n s ≤ b + n; omega⟩
          · split
            · exact ⟨hb, by show b ≤ b + n; omega⟩
            · have og := opsN_ge (n - hiz n s) (s - 1) (by omega) (by omega)
              have := ih2 b (i - (1 + kp n s) - opsN (n - hiz n s) (s - 1) - kp n s - 1) hb (by omega) (by omega)
              omega
end Bs

namespace Bs
open PySem PySem.Spec PyProof.Rows L2
/-! ### how many steps are done how often in a best list -/
theorem cum_split {n s m j : Int} (hs : 2 ≤ s) (h1 : 1 ≤ m) (h2 : m < n) (hb : Best n s m) (hj : 0 ≤ j) : min n (Rz s j) = min (n - m) (Rz (s - 1) j) + min m (Rz s (j - 1)) := by
  obtain ⟨b1, b2, b3, b4⟩ := hb
  have r1 := rho_pos (n := n) (s := s) (by omega) (by omega)
  by_cases h : j ≤ rho n s - 1
  · have p : Rz s j = Rz (s - 1) j + Rz s (j - 1) := by
      by_cases h0 : j = 0
      · subst h0
        rw [Rz_r0 (by omega), Rz_r0 (by omega), show (0 : Int) - 1 = -1 by rfl, Rz_neg (by omega)]
        rfl
      · exact Rz_pascal (by omega) (by omega)
    have a1 := rho_least (n := n) (s := s) (q := rho n s - 1) (by omega) (by omega) (by omega) (by omega)
    have a2 := Rz_mono (s := s) (r := j) (r' := rho n s - 1) (by omega) h (by omega)
    have a3 := Rz_mono (s := s - 1) (r := j) (r' := rho n s - 1) (by omega) h (by omega)
    have a4 := Rz_mono (s := s) (r := j - 1) (r' := rho n s - 2) (by omega) (by omega) (by omega)
    omega
  · have a0 := rho_reach (n := n) (s := s) (by omega)
    have a2 := Rz_mono (s := s) (r := rho n s) (r' := j) (by omega) (by omega) (by omega)
    have a3 := Rz_mono (s := s - 1) (r := rho n s) (r' := j) (by omega) (by omega) (by omega)
    have a4 := Rz_mono (s := s) (r := rho n s - 1) (r' := j - 1) (by omega) (by omega) (by omega)
    omega
/-- the times of the steps of a best list -/
def Tms (L : List Int) (n s : Int) : Prop := (∀ t ∈ L, 1 ≤ t ∧ t < n) ∧ (L.length : Int) = n - 1 ∧ ∀ j : Int, 0 ≤ j → (L.countP (fun t => decide (t ≤ j)) : Int) + 1 = min n (Rz s j)
theorem Tms.one {s : Int} (hs : 1 ≤ s) : Tms [] 1 s := by
  refine ⟨fun t h => (nomatch h), rfl, fun j hj => ?_⟩
  have := Rz_gt (s := s) (r := j) hs hj
  show (0 : Int) + 1 = _
  omega
def downL : Nat → List Int
  | 0 => []
  | k + 1 => ((k : Int) + 1) :: downL k
theorem downL_range : ∀ k : Nat, downL k = (List.range k).map fun (i : Nat) => (k : Int) - (i : Int)
  | 0 => rfl
  | k + 1 => by
    show _ :: downL k = _
    rw [downL_range k, List.range_succ_eq_map, List.map_cons, List.map_map]
    have e0 : ((k : Int) + 1) = ((k + 1 : Nat) : Int) - ((0 : Nat) : Int) := by omega
    rw [e0]
    congr 1
    · refine List.map_congr_left fun i _ => ?_
      show (k : Int) - (i : Int) = ((k + 1 : Nat) : Int) - ((i + 1 : Nat) : Int)
      omega
theorem downL_len : ∀ k : Nat, (downL k).length = k
  | 0 => rfl
  | k + 1 => congrArg Nat.succ (downL_len k)
theorem downL_mem : ∀ {k : Nat} {t : Int}, t ∈ downL k → 1 ≤ t ∧ t ≤ k
  | k + 1, t, h => by
    rcases List.mem_cons.mp h with rfl | h
    · omega
    · have := downL_mem h
      omega
theorem downL_count : ∀ (k : Nat) (j : Int), 0 ≤ j → ((downL k).countP (fun t => decide (t ≤ j)) : Int) = min (k : Int) j
  | 0, j, h => by show (0 : Int) = min 0 j; omega
  | k + 1, j, h => by
    have ih := downL_count k j h
    show ((((k : Int) + 1) :: downL k).countP (fun t => decide (t ≤ j)) : Int) = _
    rw [List.countP_cons]
    by_cases hk : (k : Int) + 1 ≤ j
    · rw [if_pos (by simpa using hk)]; omega
    · rw [if_neg (by simpa using hk)]; omega
theorem Tms.slot1 {k : Nat} : Tms (downL k) ((k : Int) + 1) 1 := by
  refine ⟨fun t h => ?_, by rw [downL_len]; omega, fun j hj => ?_⟩
  · have := downL_mem h
    omega
  · rw [downL_count k j hj, Rz_one hj]
    omega
theorem count_shift (L : List Int) (j : Int) : (L.map (· + 1)).countP (fun t => decide (t ≤ j)) = L.countP (fun t => decide (t ≤ j - 1)) := by
  rw [List.countP_map]
  refine List.countP_congr fun t _ => ?_
  simp only [Function.comp_apply, decide_eq_true_eq]
  omega
theorem Tms.split {A B : List Int} {n s m : Int} (hs : 2 ≤ s) (h1 : 1 ≤ m) (h2 : m < n) (hb : Best n s m) (ha : Tms A m s) (hB : Tms B (n - m) (s - 1)) : Tms (A.map (· + 1) ++ [1] ++ B) n s := by
  obtain ⟨a1, a2, a3⟩ := ha
  obtain ⟨b1, b2, b3⟩ := hB
  refine ⟨fun t ht => ?_, ?_, fun j hj => ?_⟩
  · rcases List.mem_append.mp ht with ht | ht
    · rcases List.mem_append.mp ht with ht | ht
      · obtain ⟨x, hx, rfl⟩ := List.mem_map.mp ht
        have := a1 x hx
        omega
      · rw [List.mem_singleton.mp ht]
        omega
    · have := b1 t ht
      omega
  · simp only [List.length_append, List.length_map, List.length_cons, List.length_nil]
    omega
  · rw [cum_split hs h1 h2 hb hj, List.countP_append, List.countP_append, count_shift]
    have hb3 := b3 j hj
    by_cases h0 : j = 0
    · subst h0
      have z : A.countP (fun t => decide (t ≤ (0 : Int) - 1)) = 0 := by
        rw [List.countP_eq_zero]
        intro t ht
        have := a1 t ht
        simp only [decide_eq_true_eq]
        omega
      have o : [(1 : Int)].countP (fun t => decide (t ≤ (0 : Int))) = 0 := by decide
      rw [z, o, show (0 : Int) - 1 = -1 by rfl, Rz_neg (by omega)]
      omega
    · have ha3 := a3 (j - 1) (by omega)
      have o : [(1 : Int)].countP (fun t => decide (t ≤ j)) = 1 := by
        rw [List.countP_cons, if_pos (by simp only [decide_eq_true_eq]; omega)]
        rfl
      rw [o]
      omega
/-- how many are done just t times -/
def manyT (n s t : Int) : Int := min n (Rz s t) - min n (Rz s (t - 1))
theorem count_le (L : List Int) (t : Int) : L.countP (fun x => decide (x ≤ t)) = L.countP (fun x => decide (x ≤ t - 1)) + L.count t := by
  induction L with
  | nil => rfl
  | cons x L ih =>
    rw [List.countP_cons, List.countP_cons, List.count_cons, ih]
    by_cases h1 : x ≤ t - 1
    · rw [if_pos (by simp only [decide_eq_true_eq]; omega), if_pos (by simp only [decide_eq_true_eq]; omega), if_neg (by simp only [beq_iff_eq]; omega)]
      omega
    · by_cases h2 : x = t
      · rw [if_pos (by simp only [decide_eq_true_eq]; omega), if_neg (by simp only [decide_eq_true_eq]; omega), if_pos (by simp only [beq_iff_eq]; omega)]
        omega
      · rw [if_neg (by simp only [decide_eq_true_eq]; omega), if_neg (by simp only [decide_eq_true_eq]; omega), if_neg (by simp only [beq_iff_eq]; omega)]
        omega
theorem Tms.count {L : List Int} {n s t : Int} (hn : 1 ≤ n) (hs : 1 ≤ s) (h : Tms L n s) (ht : 1 ≤ t) : (L.count t : Int) = manyT n s t := by
  have h1 := h.2.2 t (by omega)
  have h2 := count_le L t
  unfold manyT
  by_cases h0 : t = 1
  · subst h0
    have z : L.countP (fun x => decide (x ≤ (1 : Int) - 1)) = 0 := by
      rw [List.countP_eq_zero]
      intro x hx
      have := h.1 x hx
      simp only [decide_eq_true_eq]
      omega
    have := Rz_r0 (s := s) (by omega)
    rw [z] at h2
    rw [show (1 : Int) - 1 = 0 by rfl, this]
    omega
  · have h3 := h.2.2 (t - 1) (by omega)
    omega
theorem manyT_pos {n s t : Int} (hn : 1 ≤ n) (hs : 1 ≤ s) (ht : 1 ≤ t) : 0 < manyT n s t ↔ t ≤ rho n s := by
  unfold manyT
  constructor
  · intro h
    refine Decidable.byContradiction fun z => ?_
    have a0 := rho_reach (n := n) (s := s) (by omega)
    have a2 := Rz_mono (s := s) (r := rho n s) (r' := t - 1) (by omega) (by omega) (by have := rho_nonneg n s; omega)
    have a3 := Rz_mono (s := s) (r := t - 1) (r' := t) (by omega) (by omega) (by omega)
    omega
  · intro h
    have a1 := rho_least (n := n) (s := s) (q := t - 1) hn hs (by omega) (by omega)
    have a3 : Rz s (t - 1) < Rz s t := by
      by_cases hs1 : s = 1
      · subst hs1
        rw [Rz_one (by omega), Rz_one (by omega)]
        omega
      · have := Rz_pascal (s := s) (r := t) (by omega) (by omega)
        have := Rz_gt (s := s - 1) (r := t) (by omega) (by omega)
        omega
    omega
theorem manyT_le {n s t : Int} (hs : 1 ≤ s) (ht : 1 ≤ t) (hn : 1 ≤ n) : 0 ≤ manyT n s t ∧ manyT n s t ≤ n := by
  unfold manyT
  have a3 := Rz_mono (s := s) (r := t - 1) (r' := t) (by omega) (by omega) (by omega)
  have := Rz_nonneg s (t - 1)
  omega
/-- the list of the times -/
def stL (n s : Int) (r : Nat) : List (Int × Int) := (List.range r).map fun (i : Nat) => ((i : Int) + 1, manyT n s ((i : Int) + 1))
theorem stL_succ {n s : Int} {r : Nat} : stL n s (r + 1) = stL n s r ++ [((r : Int) + 1, manyT n s ((r : Int) + 1))] := by
  unfold stL
  rw [List.range_succ, List.map_append]
  rfl
theorem stL_len {n s : Int} {r : Nat} : (stL n s r).length = r := by unfold stL; rw [List.length_map, List.length_range]
theorem stL_mem {n s : Int} {r : Nat} {t c : Int} : (t, c) ∈ stL n s r ↔ 1 ≤ t ∧ t ≤ r ∧ c = manyT n s t := by
  unfold stL
  rw [List.mem_map]
  constructor
  · rintro ⟨i, hi, e⟩
    have := List.mem_range.mp hi
    injection e with e1 e2
    subst e1 e2
    exact ⟨by omega, by omega, rfl⟩
  · rintro ⟨h1, h2, rfl⟩
    refine ⟨(t - 1).toNat, List.mem_range.mpr (by omega), ?_⟩
    rw [show (((t - 1).toNat : Nat) : Int) + 1 = t by omega]
/-- all of the steps -/
theorem stL_sum {n s : Int} (hn : 1 ≤ n) (hs : 1 ≤ s) : ∀ r : Nat, ((stL n s r).map (·.2)).sum = min n (Rz s r) - 1
  | 0 => by
    have := Rz_r0 (s := s) (by omega)
    show (0 : Int) = min n (Rz s (0 : Nat)) - 1
    rw [show ((0 : Nat) : Int) = 0 from rfl, this]
    omega
  | r + 1 => by
    rw [stL_succ, List.map_append, List.sum_append, stL_sum hn hs r]
    show _ + (manyT n s ((r : Int) + 1) + 0) = _
    unfold manyT
    rw [show (r : Int) + 1 - 1 = r by omega, show ((r + 1 : Nat) : Int) = (r : Int) + 1 by omega]
    omega
theorem lin_cum {n s : Int} (hn : 1 ≤ n) (hs : 1 ≤ s) : ∀ r : Nat, (r : Int) ≤ rho n s → ((stL n s r).map fun p => p.1 * p.2).sum = (if (r : Int) = rho n s then tz n s else (r : Int) * Rz s r - Rz (s + 1) ((r : Int) - 1)) 
  | 0, _ => by
    by_cases h : ((0 : Nat) : Int) = rho n s
    · rw [if_pos h]
      unfold tz
      rw [← h]
      show (0 : Int) = 0 * n - Rz (s + 1) (0 - 1)
      rw [show (0 : Int) - 1 = -1 by rfl, Rz_neg (by omega)]
      omega
    · rw [if_neg h]
      show (0 : Int) = ((0 : Nat) : Int) * Rz s _ - Rz (s + 1) (((0 : Nat) : Int) - 1)
      rw [show ((0 : Nat) : Int) - 1 = -1 by rfl, Rz_neg (by omega)]
      show (0 : Int) = 0 * _ - 0
      rw [Int.zero_mul]
      rfl
  | r + 1, hr => by
    have hr' : (r : Int) + 1 ≤ rho n s := by omega
    have ih := lin_cum hn hs r (by omega)
    rw [if_neg (by omega)] at ih
    rw [stL_succ, List.map_append, List.sum_append, ih]
    show _ + (((r : Int) + 1) * manyT n s ((r : Int) + 1) + 0) = _
    have a1 := rho_least (n := n) (s := s) (q := (r : Int)) hn hs (by omega) (by omega)
    have nx := Rz_next (s := s) (r := (r : Int)) (by omega) (by omega)
    have e0 : ((r + 1 : Nat) : Int) = (r : Int) + 1 := by omega
    rw [e0, show (r : Int) + 1 - 1 = r by omega]
    by_cases h : (r : Int) + 1 = rho n s
    · rw [if_pos h]
      have a2 := rho_reach (n := n) (s := s) hs
      have em : manyT n s ((r : Int) + 1) = n - Rz s r := by
        unfold manyT
        rw [show (r : Int) + 1 - 1 = r by omega, h]
        omega
      have et : tz n s = ((r : Int) + 1) * n - Rz (s + 1) r := by
        unfold tz
        rw [← h, show (r : Int) + 1 - 1 = r by omega]
      rw [em, et, nx, Int.mul_sub, Int.add_mul, Int.add_mul]
      omega
    · rw [if_neg h]
      have a3 := rho_least (n := n) (s := s) (q := (r : Int) + 1) hn hs (by omega) (by omega)
      have em : manyT n s ((r : Int) + 1) = Rz s ((r : Int) + 1) - Rz s r := by
        unfold manyT
        rw [show (r : Int) + 1 - 1 = r by omega]
        omega
      rw [em, nx, Int.mul_sub, Int.add_mul, Int.add_mul]
      omega
theorem stL_steps {n s : Int} (hn : 1 ≤ n) (hs : 1 ≤ s) : ((stL n s (rho n s).toNat).map fun p => p.1 * p.2).sum = tz n s := by
  have := rho_nonneg n s
  have h := lin_cum hn hs (rho n s).toNat (by omega)
  rw [if_pos (by omega)] at h
  exact h
theorem stL_all {n s : Int} (hn : 1 ≤ n) (hs : 1 ≤ s) : ((stL n s (rho n s).toNat).map (·.2)).sum = n - 1 := by
  have := rho_nonneg n s
  have h := stL_sum hn hs (rho n s).toNat
  have a := rho_reach (n := n) (s := s) hs
  rw [show (((rho n s).toNat : Nat) : Int) = rho n s by omega] at h
  omega
/-! ### counting in a dict -/
def bump : List (Int × Int) → Int → List (Int × Int)
  | [], t => [(t, 1)]
  | p :: r, t => if p.1 = t then (p.1, p.2 + 1) :: r else p :: bump r t
def getC (ps : List (Int × Int)) (t : Int) : Int := match ps.find? (fun p => decide (p.1 = t)) with
  | some p => p.2
  | none => 0
/-- the pairs that count L -/
def Cnt (ps : List (Int × Int)) (L : List Int) : Prop := (ps.map (·.1)).Nodup ∧ ∀ t c, (t, c) ∈ ps ↔ t ∈ L ∧ c = (L.count t : Int)
theorem bump_keys : ∀ (ps : List (Int × Int)) (t : Int), ∀ k, k ∈ (bump ps t).map (·.1) ↔ k ∈ ps.map (·.1) ∨ k = t
  | [], t, k => by simp [bump]
  | p :: r, t, k => by
    unfold bump
    by_cases h : p.1 = t
    · rw [if_pos h]
      simp only [List.map_cons, List.mem_cons]
      constructor
      · rintro (h1 | h1)
        · exact .inl (.inl h1)
        · exact .inl (.inr h1)
      · rintro ((h1 | h1) | h1)
        · exact .inl h1
        · exact .inr h1
        · exact .inl (h1.trans h.symm)
    · rw [if_neg h]
      simp only [List.map_cons, List.mem_cons, bump_keys r t k, or_assoc]
theorem bump_nodup : ∀ (ps : List (Int × Int)) (t : Int), (ps.map (·.1)).Nodup → ((bump ps t).map (·.1)).Nodup
  | [], t, _ => by simp [bump]
  | p :: r, t, h => by
    rw [List.map_cons, List.nodup_cons] at h
    unfold bump
    by_cases e : p.1 = t
    · rw [if_pos e, List.map_cons, List.nodup_cons]
      exact h
    · rw [if_neg e, List.map_cons, List.nodup_cons]
      refine ⟨fun z => ?_, bump_nodup r t h.2⟩
      rcases (bump_keys r t p.1).mp z with z | z
      · exact h.1 z
      · exact e z
theorem bump_mem : ∀ {ps : List (Int × Int)} {t : Int}, (ps.map (·.1)).Nodup → ∀ k c, (k, c) ∈ bump ps t ↔ if k = t then c = getC ps t + 1 else (k, c) ∈ ps
  | [], t, _, k, c => by
    show (k, c) ∈ [(t, 1)] ↔ _
    rw [List.mem_singleton, Prod.mk.injEq]
    by_cases h : k = t
    · rw [if_pos h]
      show _ ↔ c = 0 + 1
      constructor
      · exact fun z => z.2
      · exact fun z => ⟨h, z⟩
    · rw [if_neg h]
      exact ⟨fun z => absurd z.1 h, fun z => nomatch z⟩
  | p :: r, t, hn, k, c => by
    rw [List.map_cons, List.nodup_cons] at hn
    unfold bump
    by_cases e : p.1 = t
    · have g : getC (p :: r) t = p.2 := by
        unfold getC
        rw [List.find?_cons_of_pos (by simpa using e)]
      rw [if_pos e, g, List.mem_cons, Prod.mk.injEq]
      by_cases h : k = t
      · rw [if_pos h]
        constructor
        · rintro (z | z)
          · exact z.2
          · have z2 : k ∈ r.map (·.1) := List.mem_map.mpr ⟨_, z, rfl⟩
            rw [h.trans e.symm] at z2
            exact absurd z2 hn.1
        · exact fun z => .inl ⟨h.trans e.symm, z⟩
      · rw [if_neg h, List.mem_cons]
        constructor
        · rintro (z | z)
          · exact absurd (z.1.trans e) h
          · exact .inr z
        · rintro (z | z)
          · exact absurd ((congrArg Prod.fst z).trans e) h
          · exact .inr z
    · have g : getC (p :: r) t = getC r t := by
        unfold getC
        rw [List.find?_cons_of_neg (by simpa using e)]
      rw [if_neg e, g, List.mem_cons, bump_mem hn.2 k c]
      by_cases h : k = t
      · rw [if_pos h, if_pos h]
        constructor
        · rintro (z | z)
          · exact absurd ((congrArg Prod.fst z).symm.trans h) e
          · exact z
        · exact .inr
      · rw [if_neg h, if_neg h, List.mem_cons]
theorem getC_cnt {ps : List (Int × Int)} {L : List Int} (h : Cnt ps L) (t : Int) : getC ps t = (L.count t : Int) := by
  unfold getC
  cases hf : ps.find? (fun p => decide (p.1 = t)) with
  | some p =>
    have h1 := List.find?_some hf
    have h2 := List.mem_of_find?_eq_some hf
    have h1 : p.1 = t := by simpa using h1
    have := (h.2 p.1 p.2).mp h2
    rw [← h1]
    exact this.2
  | none =>
    have h1 := List.find?_eq_none.mp hf
    show (0 : Int) = _
    by_cases ht : t ∈ L
    · have := (h.2 t (L.count t)).mpr ⟨ht, rfl⟩
      exact absurd (by simp) (h1 _ this)
    · rw [List.count_eq_zero.mpr ht]
      rfl
theorem Cnt.bump {ps : List (Int × Int)} {L : List Int} (h : Cnt ps L) (t : Int) : Cnt (bump ps t) (L ++ [t]) := by
  refine ⟨bump_nodup ps t h.1, fun k c => ?_⟩
  rw [bump_mem h.1 k c, getC_cnt h t, List.mem_append, List.mem_singleton, List.count_append, List.count_singleton]
  by_cases e : k = t
  · subst e
    rw [if_pos rfl, if_pos (by simp)]
    constructor
    · exact fun z => ⟨.inr rfl, by omega⟩
    · exact fun z => by omega
  · rw [if_neg e, h.2 k c, if_neg (by simp only [beq_iff_eq]; exact fun z => e z.symm)]
    constructor
    · exact fun z => ⟨.inl z.1, by omega⟩
    · rintro ⟨z | z, z2⟩
      · exact ⟨z, by omega⟩
      · exact absurd z e
theorem Cnt.nil : Cnt [] [] := ⟨List.nodup_nil, fun t c => ⟨(fun h => nomatch h), fun h => absurd h.1 List.not_mem_nil⟩⟩
theorem Cnt.perm {ps : List (Int × Int)} {L : List Int} {n s : Int} (hn : 1 ≤ n) (hs : 1 ≤ s) (h : Cnt ps L) (ht : Tms L n s) : ps.Perm (stL n s (rho n s).toNat) := by
  have r0 := rho_nonneg n s
  have nd1 : ps.Nodup := by
    have := h.1
    unfold List.Nodup at this ⊢
    rw [List.pairwise_map] at this
    exact this.imp fun {a b} h e => h (by rw [e])
  have nd2 : (stL n s (rho n s).toNat).Nodup := by
    unfold stL List.Nodup
    rw [List.pairwise_map]
    refine List.Pairwise.imp (R := (· < ·)) (fun {a b} h e => ?_) List.pairwise_lt_range
    injection e with e1 _
    omega
  refine (List.perm_ext_iff_of_nodup nd1 nd2).mpr fun p => ?_
  obtain ⟨t, c⟩ := p
  rw [h.2 t c, stL_mem]
  constructor
  · rintro ⟨h1, rfl⟩
    have t1 := (ht.1 t h1).1
    have hc := ht.count hn hs t1
    have : 0 < L.count t := List.count_pos_iff.mpr h1
    have := (manyT_pos (n := n) (s := s) hn hs t1).mp (by omega)
    exact ⟨t1, by omega, hc⟩
  · rintro ⟨t1, t2, rfl⟩
    have hc := ht.count hn hs t1
    have := (manyT_pos (n := n) (s := s) hn hs t1).mpr (by omega)
    exact ⟨List.count_pos_iff.mp (by omega), hc.symm⟩
end Bs

namespace Bs
open PySem PySem.Spec PyProof.Rows L2 LiI
open Evl (Ex)
/-! ### sorted(d.items()), d a dict of numbers by numbers -/
def intKvs (ps : List (Int × Int)) : List (Key × V) := ps.map fun p => (Sum.inl p.1, V.int p.2)
/-- pairs of numbers, ascending -/
def SrtP (qs : List (Int × Int)) : Prop := SrtO.Srtd SrtO.lexB qs
def rItemsS : V → Hp → VK → Prop := fun x H Q => ∃ (d : Addr) (ps : List (Int × Int)), x = .ref d ∧ H d = some (.dK (intKvs ps)) ∧
  ∀ (H' : Hp) (p : Addr) (ts : List Addr) (qs : List (Int × Int)), Ex H H' → H p = none → (∀ t ∈ ts, H t = none ∧ t ≠ p) → qs.Perm ps → SrtP qs → H' p = some (.lst (ts.map V.ref)) →
    Paired (fun (t : Addr) (q : Int × Int) => H' t = some (.tup [.int q.1, .int q.2])) ts qs → Q (.ref p) H'
def tSortItems (te : TE) : TE := fun σ H Q => te σ H fun x H1 => rItemsS x H1 Q
theorem paired_of {α β : Type} {F : α → β → Prop} : ∀ {xs : List α} {ys : List β}, xs.length = ys.length → (∀ (i : Nat) x y, xs[i]? = some x → ys[i]? = some y → F x y) → Paired F xs ys
  | [], [], _, _ => .nil
  | [], _ :: _, h, _ => by cases h
  | _ :: _, [], h, _ => by cases h
  | x :: xs, y :: ys, h, k => .cons (k 0 x y rfl rfl) (paired_of (Nat.succ.inj h) fun i a b e1 e2 => k (i + 1) a b e1 e2)
section
variable {X : Cx} {e : Expr} {te : TE} {p apos cpos pos : Pos}
theorem items_laid2 {pins : List (Addr × Obj)} {σ : L2.St} {H : Hp} {s : Shared} {h' : Heap} {tk : Nat} {kvs : List (Key × V)} {vs : List (Key × Value)} {as : List Addr} (I : Inv X pins σ H s) (kv : KV kvs vs)
    (hk : ∀ b o, s.heap.get? b = some o → h'.get? b = some o) (hl : as.length = vs.length) (hG : PySem.W.KdxG (mixKind X.prog X.w) vs s.heap.objs.size h' as) :
    ∃ H' : Hp, Ex H H' ∧ (∀ t ∈ as, H t = none) ∧ (∀ b, b ∉ as → H' b = H b) ∧ Paired (fun (t : Addr) (q : Key × V) => H' t = some (.tup [kV q.1, q.2])) as kvs ∧ Inv X pins σ H' { s with heap := h', toks := tk } := by
  have lk : kvs.length = vs.length := Paired.length kv
  have nd : as.Nodup := List.Pairwise.imp (fun {a b} (h : a < b) => Nat.ne_of_lt h) hG.rise
  have new : ∀ t ∈ as, H t = none := fun t ht => I.hok.fresh (Nat.le_of_lt (hG.above t ht))
  have atP := putT_at as kvs H (by omega) nd
  have off : ∀ b, b ∉ as → putT H as kvs b = H b := fun b h1 => putT_off as kvs _ h1
  have low : ∀ b o, s.heap.get? b = some o → b ∉ as := fun b o e z => absurd (Heap.lt_size e) (Nat.not_lt.mpr (Nat.le_of_lt (hG.above b z)))
  have kp : ∀ b u, H b = some u → (putT H as kvs) b = some u := fun b u e => by
    rw [off b (fun z => by rw [new b z] at e; cases e)]
    exact e
  refine ⟨putT H as kvs, kp, new, off, atP, ?_⟩
  refine I.call' (ch := []) rfl ⟨fun b o q _ _ _ => hk b o q, fun b o q _ _ _ => ⟨o.slots, hk b o q⟩, fun b o q n _ => ?_, fun b o q _ => ⟨o, hk b o q⟩, fun b xs q => kp b _ q, fun b o u q => kp b _ q, fun b ps q => ⟨#[], by rw [kp b _ q]; simp⟩⟩ (fun b u q => ?_) I.bare fun b z => by simp at z
  · rw [off b (low b o q)]
    exact n
  · by_cases hb : b ∈ as
    · obtain ⟨j, pk, e1, e2, e3⟩ := paired_ix atP hb
      rw [e3] at q
      cases q
      obtain ⟨key, k, x, f1, f2, f3⟩ := hG.pairs j b e1
      obtain ⟨qv, g1, g2, g3⟩ := LiI.paired_get kv e2
      rw [f1] at g1
      cases g1
      have rk : RelV (kV pk.1) key := by
        rw [g2]
        exact relV_key (show keyIs k key = true from f2)
      exact ⟨by show 2 ≤ sizeLine; decide, [key, x], .cons rk (.cons g3 .nil), ⟨_, f3, rfl, _, rfl⟩⟩
    · rw [off b hb] at q
      exact (I.hok b u q).stay (fun d v _ y => hk d v y) (fun d y => kp d _ y) fun d xs y => kp d _ y
theorem pe_sortedItems (hc : X.calm = true) (he : PE X e te) (hg : Gl X "sorted") (hm : X.mg "sorted" = none) (hv : bootBuiltins "sorted" = some (.builtin "sorted")) (hbase : attributeBase e "items" X.env (eval e X.env) = eval e X.env := by rfl) (hline : (apos.endLine == cpos.line) = true := by rfl)
    (hs : starEach [.Call (.Attribute e "items" apos) [] [] cpos] X.env = (false, eval (.Call (.Attribute e "items" apos) [] [] cpos) X.env) :: starEach [] X.env := by rfl) :
    PE X (.Call (.Name "sorted" p) [.Call (.Attribute e "items" apos) [] [] cpos] [] pos) (tSortItems te) := by
  refine ⟨fun pins s σ H Q I hq => ?_⟩
  refine wpAny_Call_Name_kw (ld_blt I hg hm hv ?_)
  refine PyProof.Rows.callWith_builtin1 ?_ hs rfl
  rw [hs]
  show wpAny _ _ (spliced ((false, eval (.Call (.Attribute e "items" apos) [] [] cpos) X.env) :: backTo pos (starEach [] X.env))) _ _ s
  refine Calls.spliced_cons ?_
  refine wpAny_Call_method (T := "dict") (id := "dict.items") hbase rfl hline F.plainAttrs_dict F.slot_dict_items F.type_dict_items (thn (he.run pins s σ H _ I hq) fun u s1 ⟨x, H1, I1, rx, d, ps, ex, hd, q⟩ => ?_)
  subst ex
  obtain rfl : u = Value.ref d := rx
  obtain ⟨hz, hs0, vs, kv, hdo⟩ := I1.hok d _ hd
  obtain ⟨ep, hat⟩ := hdo.dictAt
  have lk : (intKvs ps).length = vs.length := Paired.length kv
  have I2 : Inv X pins σ H1 { s1 with heap := s1.heap.push { cls := .type "dict_items", data := .fields #[.ref d] } } := I1.kept (t' := s1.toks) fun b ob q => Heap.get?_push_of_some _ q
  refine ⟨hdo.typeIs, hdo.mapOf.noDict, ?_⟩
  show wpAny _ _ (callWith cpos (.builtin "dict.items") [.ref d] [] []) _ X.xe s1
  refine method_meetsIn F.slot_dict_items F.entry_dict_items rfl (PySem.evalArgs_none ⟨rfl, hdo.typeIs, F.args_dict_items_1 _, _, meets_dict_items (mixKind X.prog X.w) d hs0, ⟨vs, hdo⟩, ?_⟩)
  refine Calls.spliced_nil ?_
  refine Calls.call_function_entry kind_sorted plain_sorted entry_sorted (args_sorted1 _) ?_
  unfold Builtin.«sorted»
  refine wpAny_bind (m := checkCount "sorted" 1 1 _) (wpAny_pure ?_)
  refine wpAny_bind (PySem.W.kdx_collect (A := X.A.in1) (knd := mixKind X.prog X.w) (kvs := vs) (ep := ep) (I1.ok.hd hc) ⟨_, Heap.get?_push_size _ rfl, rfl, rfl⟩ (hat.push _) (by omega) fun h' tk as hk hl hG => ?_)
  obtain ⟨H2, e2, n2, off2, pr2, I3⟩ := items_laid2 (tk := tk) I2 kv hk hl hG
  have lz : (as.map Value.ref).length ≤ sizeLine := by rw [List.length_map, hl]; omega
  refine wpAny_bind (wpAny_newList ?_ lz)
  -- the pairs of the tuples
  have atI : ∀ (i : Nat) (t : Addr) (q : Int × Int), as[i]? = some t → ps[i]? = some q → H2 t = some (.tup [.int q.1, .int q.2]) := fun i t q h1 h2 => by
    obtain ⟨y, g1, g2⟩ := LiI.paired_get pr2 h1
    unfold intKvs at g1
    rw [List.getElem?_map, h2] at g1
    cases g1
    exact g2
  have lps : as.length = ps.length := by
    have : (intKvs ps).length = ps.length := by unfold intKvs; rw [List.length_map]
    omega
  let kk : V → Int × Int := fun v => match v with
    | .ref t => (match H2 t with
      | some (.tup [.int i, .int j]) => (i, j)
      | _ => (0, 0))
    | _ => (0, 0)
  have kkP : ∀ (i : Nat) (t : Addr) (q : Int × Int), as[i]? = some t → ps[i]? = some q → kk (.ref t) = q := fun i t q h1 h2 => by
    show (match H2 t with | some (.tup [.int i, .int j]) => (i, j) | _ => (0, 0)) = q
    rw [atI i t q h1 h2]
  have psOf : ∀ t ∈ as, ∃ q, H2 t = some (.tup [.int q.1, .int q.2]) ∧ kk (.ref t) = q := fun t ht => by
    obtain ⟨i, hi⟩ := List.getElem?_of_mem ht
    have hl := (List.getElem?_eq_some_iff.mp hi).1
    have h2 : ps[i]? = some ps[i] := List.getElem?_eq_getElem (by omega)
    exact ⟨_, atI i t _ hi h2, kkP i t _ hi h2⟩
  have mps : (as.map V.ref).map kk = ps := by
    refine List.ext_getElem? fun i => ?_
    rw [List.map_map, List.getElem?_map]
    by_cases hi : i < as.length
    · rw [List.getElem?_eq_getElem hi, List.getElem?_eq_getElem (show i < ps.length by omega)]
      exact congrArg some (kkP i _ _ (List.getElem?_eq_getElem hi) (List.getElem?_eq_getElem (by omega)))
    · rw [List.getElem?_eq_none (by omega), List.getElem?_eq_none (by omega)]
      rfl
  have hoL : (h'.push (seqObj "list" (as.map Value.ref).toArray 0)).get? h'.objs.size = some (seqObj "list" (as.map Value.ref).toArray 0) := Heap.get?_push_size _ rfl
  have isP : ∀ v ∈ as.map Value.ref, Srt.IsPair (h'.push (seqObj "list" (as.map Value.ref).toArray 0)) v (kk (backV v)).1 (kk (backV v)).2 := fun v hv => by
    obtain ⟨t, ht, rfl⟩ := List.mem_map.mp hv
    obtain ⟨q, hq, hkq⟩ := psOf t ht
    show Srt.IsPair _ _ (kk (.ref t)).1 (kk (.ref t)).2
    rw [hkq]
    obtain ⟨_, its2, r2, o, ho, hc2, n, hd2⟩ := I3.hok _ _ hq
    obtain ⟨u1, u2, rfl, ri, rj⟩ := vals2 r2
    obtain ⟨t1, rfl⟩ := ri
    obtain ⟨t2, rfl⟩ := rj
    exact ⟨t, o, t1, t2, n, rfl, Heap.get?_push_of_some _ ho, hc2, hd2⟩
  refine wpAny_bind (wpAny_holding (wpAny_call_entry slot_list_sort ⟨_, hoL, rfl⟩ entry_list_sort (SrtO.list_sort_ord (SrtO.swo_lex fun u => kk (backV u)) hoL lz (fun h2 => ?_) fun out hs1 hb => ⟨_, rfl, ?_⟩) (args_list_sort _)))
  · refine SrtO.pairs_sortableO (s := { s1 with heap := h'.push (seqObj "list" (as.map Value.ref).toArray 0), toks := tk }) (by omega) isP fun o e => ?_
    have e' : some o = some (seqObj "list" (as.map Value.ref).toArray 0) := e.symm.trans hoL
    cases e'
    intro c
    exact absurd (Value.type.inj c) (by decide)
  · refine wpAny_pure ⟨_, rfl, ?_⟩
    have h3 : ∀ u ∈ out, ∃ a, u = Value.ref a := fun u hu => by
      obtain ⟨a, _, rfl⟩ := List.mem_map.mp (hb.perm.mem_iff.mp hu)
      exact ⟨a, rfl⟩
    have hbV : SrtO.Stb (ltP kk) (out.map backV) (as.map V.ref) := by
      have := SrtO.Stb.map (ltP_swo kk) backV hb
      have e9 : (as.map Value.ref).map backV = as.map V.ref := by rw [List.map_map]; rfl
      rw [e9] at this
      exact this
    obtain ⟨n, hn⟩ := sortedHeap_at (out := out.toArray) hoL
    have kpN : ∀ b o, h'.get? b = some o → (sortedHeap (h'.push (seqObj "list" (as.map Value.ref).toArray 0)) h'.objs.size (as.map Value.ref) out.toArray).get? b = some o := fun b o z => by
      have lt := Heap.lt_size z
      rw [sortedHeap_old (Nat.ne_of_lt lt) (by rw [size_push']; exact Nat.lt_succ_of_lt lt)]
      exact Heap.get?_push_of_some _ z
    have lo : out.length = as.length := by
      have := hb.perm.length_eq
      rw [List.length_map] at this
      exact this
    have J : Inv X pins σ (upd H2 h'.objs.size (.lst (out.map backV))) { s1 with heap := sortedHeap (h'.push (seqObj "list" (as.map Value.ref).toArray 0)) h'.objs.size (as.map Value.ref) out.toArray, toks := tk } := by
      refine I3.laid (t' := tk) (a := h'.objs.size) kpN (Nat.le_refl _) ⟨?_, out, n, vals_back h3, hn⟩
      rw [List.length_map, lo, hl]
      omega
    have nB : H2 h'.objs.size = none := I3.hok.fresh (Nat.le_refl _)
    -- the addresses as they stand behind
    obtain ⟨ts, ets, hts⟩ : ∃ ts : List Addr, out.map backV = ts.map V.ref ∧ ∀ t ∈ ts, t ∈ as := by
      have all : ∀ l : List Value, (∀ u ∈ l, u ∈ as.map Value.ref) → ∃ ts : List Addr, l.map backV = ts.map V.ref ∧ ∀ t ∈ ts, t ∈ as := by
        intro l
        induction l with
        | nil => exact fun _ => ⟨[], rfl, fun _ h => nomatch h⟩
        | cons u l ih =>
          intro h
          obtain ⟨ts, e1, e3⟩ := ih fun v hv => h v (List.mem_cons_of_mem _ hv)
          obtain ⟨t, ht, rfl⟩ := List.mem_map.mp (h u (List.mem_cons_self ..))
          refine ⟨t :: ts, by rw [List.map_cons, List.map_cons, e1]; rfl, fun x hx => ?_⟩
          rcases List.mem_cons.mp hx with rfl | hx
          · exact ht
          · exact e3 x hx
      exact all out fun u hu => hb.perm.mem_iff.mp hu
    rw [ets] at J hbV
    have hsV : SrtO.Srtd (ltP kk) (ts.map V.ref) := by
      rw [← ets]
      exact SrtO.srtd_map hs1
    have kkT : ∀ t ∈ ts, H2 t = some (.tup [.int (kk (.ref t)).1, .int (kk (.ref t)).2]) := fun t ht => by
      obtain ⟨q, h1, h2⟩ := psOf t (hts t ht)
      rw [h2]
      exact h1
    refine ⟨.ref _, _, J, rfl, q _ _ ts ((ts.map V.ref).map kk) (e2.trans (exn nB)) (Evl.fresh_back e2 nB) (fun t ht => ⟨n2 t (hts t ht), fun z => ?_⟩) ?_ ?_ upd_same ?_⟩
    · have := kkT t ht
      rw [z, nB] at this
      cases this
    · have := (hbV.perm.map kk)
      rw [mps] at this
      exact this
    · unfold SrtP SrtO.Srtd
      rw [List.pairwise_map]
      exact hsV
    · refine paired_of (by rw [List.length_map, List.length_map]) fun i t q h1 h2 => ?_
      rw [List.map_map, List.getElem?_map, h1] at h2
      cases h2
      have ht := List.mem_of_getElem? h1
      exact exn nB _ _ (kkT t ht)
end
/-! ### list(range(i, j, -1)) -/
def tLstRg3 (ta : TA) : TE := fun σ H Q => ta σ H fun us H1 => ∃ (i j : Int), us = [.int i, .int j, .int (-1)] ∧ -(2 ^ 62) ≤ i ∧ i < 2 ^ 62 ∧ -(2 ^ 62) ≤ j ∧ j < 2 ^ 62 ∧ (i - j).toNat ≤ 2 ^ 24 ∧
  ∀ q, H1 q = none → Q (.ref q) (upd H1 q (.lst ((List.range (i - j).toNat).map fun (k : Nat) => V.int (i - (k : Int)))))
section
variable {X : Cx} {a b c : Expr} {ta : TA} {p pos p2 pos2 : Pos}
theorem pe_listRg3 (hc : X.calm = true) (hg : Gl X "list") (hm : X.mg "list" = none) (hg2 : Gl X "range") (hm2 : X.mg "range" = none) (ha : PA X [a, b, c] ta)
    (na : starEach [.Call (.Name "range" p2) [a, b, c] [] pos2] X.env = (false, eval (.Call (.Name "range" p2) [a, b, c] [] pos2) X.env) :: starEach [] X.env := by rfl)
    (hs : starEach [a, b, c] X.env = (false, eval a X.env) :: starEach [b, c] X.env := by rfl) (hpl : (backTo pos2 (starEach [b, c] X.env)).any (·.1) = false := by rfl) :
    PE X (.Call (.Name "list" p) [.Call (.Name "range" p2) [a, b, c] [] pos2] [] pos) (tLstRg3 ta) := by
  refine ⟨fun pins s σ H Q I h => ?_⟩
  refine Call_ (ld_blt I hg hm boot_list (PyProof.Rows.callWith_type1 (args_cons ?_ na) na))
  refine Call_ (ld_blt I hg2 hm2 boot_range (PyProof.Rows.callWith_type1 (thn (ha.run pos2 pins s σ H _ I h) fun us s1 ⟨vs, H1, I1, r1, q1⟩ => ?_) hs hpl))
  obtain ⟨i, j, e, b1, b2, b3, b4, b5, q⟩ := q1
  subst e
  obtain ⟨c0, c1, c2, c3⟩ := RgC.neg (i := i) (j := j) b1 b2 b3 b4
  cases r1 with
  | cons r rr =>
    cases rr with
    | cons r' rr =>
      cases rr with
      | cons r'' rr =>
        cases rr
        obtain ⟨t, rfl⟩ := r
        obtain ⟨t', rfl⟩ := r'
        obtain ⟨t'', rfl⟩ := r''
        refine call_range_3 c0 ?_ (.inl (PyProof.noPylong_small c1))
        have I2 : Inv X pins σ H1 { s1 with heap := s1.heap.push { cls := .type "range", data := .fields #[.int i t, .int j t', .int (-1) t''] } } := I1.kept (t' := s1.toks) fun b o e => Heap.get?_push_of_some _ e
        refine args_nil ?_
        refine call_list_range (n := (i - j).toNat) (I2.ok.hd hc) (IsRange.new ..) c2 c3 b5 fun h' tk acc c' hk e' hi => ?_
        refine ⟨.ref _, upd H1 _ (.lst ((List.range (i - j).toNat).map fun (k : Nat) => V.int (i - (k : Int)))), I2.laid hk (Nat.le_refl _) (show ObjOk X.prog X.w _ _ _ (.lst ((List.range (i - j).toNat).map fun (k : Nat) => V.int (i - (k : Int)))) from ⟨?_, acc.toList, c', ?_, ?_⟩), rfl, q _ (I2.hok.fresh (Nat.le_refl _))⟩
        · rw [List.length_map, List.length_range, sizeLine_eq]; omega
        · have el : acc.toList.length = (i - j).toNat := by rw [Array.length_toList]; exact hi.1
          rw [← el]
          refine vals_of_get acc.toList _ fun k u hk => ?_
          obtain ⟨t, rfl⟩ := hi.2 k u (by rw [← hk, Array.getElem?_toList])
          exact ⟨t, by rw [show i - (k : Int) = i + (k : Nat) * (-1) by omega]⟩
        · rw [Array.toArray_toList]; exact e'
end
end Bs

namespace Bs
open PySem PySem.Spec PyProof.Rows L2
open Evl (Ex)
/-! ### a caught exception that is kept: it is tracked -/
def EV (cls : Value) (d : Option Addr) (a : Addr) : HO :=
  .ext fun h => ∃ oe vs, h.get? a = some oe ∧ Zc cls d oe ∧ oe.data = Data.fields vs
theorem ev_ok {P : Program} {w : World} {H : Hp} {h : Heap} {a : Addr} {cls : Value} {d : Option Addr} {oe : Obj} {vs : Array Value}
    (e : h.get? a = some oe) (z : Zc cls d oe) (q : oe.data = Data.fields vs) : ObjOk P w H h a (EV cls d a) :=
  ⟨⟨oe, vs, e, z, q⟩, ⟨oe, e⟩, fun _ _ y k => by
    obtain ⟨o, u, y1, y2⟩ := y
    exact ⟨o, u, k o y1, y2⟩⟩
theorem ev_at {P : Program} {w : World} {H : Hp} {h : Heap} {a : Addr} {cls : Value} {d : Option Addr} (hok : HOk P w H h) (he : H a = some (EV cls d a)) :
    ∃ oe vs, h.get? a = some oe ∧ Zc cls d oe ∧ oe.data = Data.fields vs := by
  have x : ObjOk P w H h a (HO.ext fun h => ∃ oe vs, h.get? a = some oe ∧ Zc cls d oe ∧ oe.data = Data.fields vs) := hok a _ he
  exact x.1
section
variable {X : Cx} {pins : List (Addr × Obj)} {σ : L2.St} {H : Hp} {s : Shared}
/-- what stands already, new to the def, is tracked from now on -/
theorem inv_track {a : Addr} {o : HO} (I : Inv X pins σ H s) (na : H a = none) (n0 : X.s_0.heap.get? a = none) (nL : a ≠ X.env.locals)
    (nC : ∀ x c, X.env.cells.lookup x = some c → c ≠ a) (nP : ∀ p ∈ X.pn ++ pins, p.1 ≠ a) (new : ObjOk X.prog X.w (upd H a o) s.heap a o) : Inv X pins σ (upd H a o) s := by
  have up : ∀ {b : Addr} {u : HO}, H b = some u → upd H a o b = some u := fun {b u} q => by rw [upd_ne (ne_of_none q na), q]
  have un : ∀ {b : Addr}, b ≠ a → H b = none → upd H a o b = none := fun {b} n q => by rw [upd_ne n, q]
  refine ⟨I.ok, I.os, I.bare, ⟨I.base.keep, I.base.slot, ?_, I.base.there, ?_, ?_, ?_⟩, I.loc, I.cell, un (Ne.symm nL) I.free, ?_, ?_, ?_, I.len⟩
  · intro b u e n hx
    exact un (fun z => by rw [z, n0] at e; cases e) (I.base.free b u e n hx)
  · intro b xs e
    exact up (I.base.tups b xs e)
  · intro b u xs e
    exact up (I.base.frzs b u xs e)
  · intro b ps e
    obtain ⟨m, q⟩ := I.base.tbls b ps e
    exact ⟨m, up q⟩
  · intro x c e
    exact un (nC x c e) (I.freeC x c e)
  · intro p hp
    obtain ⟨e, n, r⟩ := I.pin p hp
    exact ⟨e, un (nP p hp) n, r⟩
  · intro b u e
    by_cases hb : b = a
    · subst hb
      rw [upd_same] at e
      cases e
      exact new
    · rw [upd_ne hb] at e
      refine (I.hok b u e).stay (fun _ _ _ q => q) (fun _ q => up q) fun _ _ q => up q
theorem inv_su (I : Inv X pins σ H s) (a : Addr) : Inv (X.suite a (X.pn ++ pins)) [] σ H s := by
  refine ⟨I.ok.suite _ _, I.os, I.bare, I.base, I.loc, I.cell, I.free, I.freeC, ?_, I.hok, I.len⟩
  intro p hp
  rw [List.append_nil] at hp
  exact I.pin p hp
theorem inv_unsu {a : Addr} {pn : List (Addr × Obj)} (I : Inv (X.suite a (X.pn ++ pins)) pn σ H s) (ok : X.Ok) : Inv X pins σ H s := by
  refine ⟨ok, I.os, I.bare, I.base, I.loc, I.cell, I.free, I.freeC, ?_, I.hok, I.len⟩
  intro p hp
  exact I.pin p (List.mem_append_left _ hp)
end
/-- try: body, except c as slot i: suite, what is caught being tracked -/
def wAsV (K : PySem.W.Frag) (c : Value) (i : Nat) (ts : TS) (Wout : WX) (D : Ends) : WX := fun cls d σ H =>
  ∃ b, PySem.W.exmOne K cls c = some b ∧
    (b = true → ∀ a, H a = none → ts ⟨fun σ' => D.nx (σ'.set i none), D.rt, fun σ' => D.bk (σ'.set i none), fun σ' => D.ct (σ'.set i none)⟩ (σ.set i (some (.ref a))) (upd H a (EV cls d a))) ∧
    (b = false → Wout cls d σ H)
def tTryV (K : PySem.W.Frag) (c : Value) (i : Nat) (tb : WX → TS) (ts : TS) (Wout : WX) : TS := fun D => tb (wAsV K c i ts Wout D) D
section
variable {X : Cx} {x n : Str} {c : Value} {i : Nat} {body su : List Stmt} {st : Stmt} {np pos pos' : Pos} {tb : WX → TS} {ts : TS} {Wout : WX}
theorem ps_try_asV (hs : X.stack = X.env :: X.outer) (hf : X.env.frame = some X.env.locals) (hex : X.ex = []) (hN : X.N.Nodup) (hi : X.N[i]? = some n) (hln : X.env.kindOf n = some .local)
    (hc : Names X x c) (tk : Takes X Wout)
    (hb : ∀ W pn xe, Takes (X.tr pn xe) W → PassesOwn (model X.prog X.w) X.A X.env xe → PSs (X.tr pn xe) body (tb W))
    (hsu : ∀ a pn, PSs (X.suite a pn) (st :: su) ts) :
    PS X (.Try body [.ExceptHandler (some (.Name x np)) (some n) (st :: su) pos'] [] [] pos) (tTryV X.K c i tb ts Wout) := by
  constructor
  intro pins s σ H D I h
  have ok := I.ok
  have frm : X.A.frames = some (X.env :: X.outer) := by
    rw [ok.frames, hs]
  apply wpAny_Try_except
  let hh : List ExceptHandler := [.ExceptHandler (some (.Name x np)) (some n) (st :: su) pos']
  let xe1 : Value → Shared → Prop := fun e t0 => wpAny (model X.prog X.w) X.A (noteFrame e X.env)
    (fun _ t1 => wpAny (model X.prog X.w) X.A (setFlight e none)
      (fun _ t2 => wpAny (model X.prog X.w) X.A (handleBy e X.env hh) (SP X pins D) X.xe t2) X.xe t1) X.xe t0
  have takes : Takes (X.tr (X.pn ++ pins) xe1) (wAsV X.K c i ts Wout D) := by
    rintro _ s' ⟨a, B, sI, pins', σ', H', cls, d, rfl, J0, nb, up, sky, na, os, ag, b, hb1, yes, no⟩
    have J : Inv X pins σ' H' sI := J0.ofTry ok
    have sky2 : Sky B (X.env :: X.outer) a (Zc cls d) X.env.locals s'.heap := by
      rw [← hs]
      exact sky
    show wpAny (model X.prog X.w) X.A (noteFrame (.ref a) X.env) _ _ _
    refine Sky.land Zc.steady frm hf sky2 ?_
    intro h3 fl3 up3
    have J3 : Inv X pins σ' H' { s' with heap := h3 } := J.landed nb fl3.1 (up.trans up3) os ag
    obtain ⟨oe3, vs3, g3, z3, d3⟩ := fl3.there
    have noFr : a ∉ frs (X.env :: X.outer) := by
      intro hm
      obtain ⟨_, o', e', hnf⟩ := fl3.2.2.1.mem hm
      rw [g3] at e'
      cases e'
      exact hnf _ d3
    have nL : a ≠ X.env.locals := by
      intro z
      exact noFr (List.mem_filterMap.mpr ⟨X.env, List.mem_cons_self, by rw [hf, z]⟩)
    have nF : a ∉ X.fs := by
      intro hm
      obtain ⟨e, he, q⟩ := List.mem_filterMap.mp hm
      exact noFr (List.mem_filterMap.mpr ⟨e, List.mem_cons_of_mem _ he, q⟩)
    have Ba : B.get? a = none := fl3.2.1
    have noFs : a ∉ frs X.stack := by
      rw [hs]
      exact noFr
    have S3 := J3.suite g3 d3 na nL nF
    refine wpAny_handleBy_cons (codeAny_handlers_test ?_) (by intro q; cases q)
    have LT : PySem.W.Looks (model X.prog X.w) h3 (typeOf (.ref a)) cls := by
      intro A Q E s k q
      exact wpAny_typeOf_ref (k _ _ g3) (by rw [z3.1]; exact q)
    have LM := PySem.W.exm_one (M := model X.prog X.w) (J3.kIn) LT hb1
    have named : ∀ {Q : Value → Shared → Prop} {E : Value → Shared → Prop}, Q c { s' with heap := h3 } →
        wpAny (model X.prog X.w) (X.A.mark (some (.ref a))) (eval (.Name x np) X.env) Q E { s' with heap := h3 } := by
      intro Q E q
      obtain ⟨hg, hdb, hm | ⟨hm, hv, hnn⟩⟩ := hc
      · exact ld_glob (X := X.suite a ((a, oe3) :: (X.pn ++ pins))) S3 hg hm q hdb
      · exact ld_blt (X := X.suite a ((a, oe3) :: (X.pn ++ pins))) S3 hg hm hv q hnn hdb
    apply named
    apply LM.here
    cases b with
    | false =>
      show wpAny _ X.A (handleBy (.ref a) X.env []) _ _ _
      apply wpAny_handleBy_nil
      obtain ⟨_, _, _, oe, vs, T, oT, ts', he, _, hd, h1, _⟩ := id fl3
      have fin : wpAny (model X.prog X.w) X.A (setFlight (.ref a) X.env.frame) (fun _ s4 => wpAny (model X.prog X.w) X.A (throw (.ref a) : Sem Flow) (SP X pins D) X.xe s4) X.xe { s' with heap := h3 } := by
        rw [hf]
        refine HandSPX.setFlight_upZ fl3 fun h4 hh4 up4 => wpAny_throw (tk _ _ ?_)
        refine ⟨a, B, sI, pins, σ', H', cls, d, rfl, J, nb, (up.trans up3).trans up4, ?_, na, os, ag, no rfl⟩
        rw [hs]
        exact .inr (.inr hh4)
      unfold PySem.passOn
      refine wpAny_bind (wpAny_field he hd h1 ?_)
      rw [if_neg (by simp)]
      first
        | exact wpAny_bind (wpAny_pure (wpAny_bind fin))
        | exact wpAny_bind fin
    | true =>
      apply codeAny_handlers_suite_as
      refine HandSPX.lands_againZ fl3 ?_
      intro h4 fl4 up4
      have J4 : Inv X pins σ' H' { s' with heap := h4 } := J.landed nb fl4.1 ((up.trans up3).trans up4) os ag
      obtain ⟨oe4, vs4, g4, z4, d4⟩ := fl4.there
      have n0 : X.s_0.heap.get? a = none := by
        cases e : X.s_0.heap.get? a with
        | none => rfl
        | some o =>
          obtain ⟨o', e'⟩ := J.base.there a o e (by rw [hex]; exact fun z => nomatch z)
          rw [nb a o' e' noFs] at Ba
          cases Ba
      have nC : ∀ x c, X.env.cells.lookup x = some c → c ≠ a := by
        intro y c' e z
        obtain ⟨v, o, ho, hd⟩ := J4.cell y c' e
        rw [z, g4] at ho
        cases ho
        rw [d4] at hd
        cases hd
      have nP : ∀ p ∈ X.pn ++ pins, p.1 ≠ a := by
        intro p hp z
        obtain ⟨e, _, q1, q2, _⟩ := J.pin p hp
        have nf : p.1 ∉ frs X.stack := by
          intro hm
          rw [z] at hm
          exact noFs hm
        have := nb _ _ e nf
        rw [z, Ba] at this
        cases this
      have J5 : Inv X pins σ' (upd H' a (EV cls d a)) { s' with heap := h4 } := inv_track J4 na n0 nL nC nP (ev_ok g4 z4 d4)
      refine store_ok (X := X.suite a (X.pn ++ pins)) (v := .ref a) (inv_su J5 a) hN hi (.inl hln) rfl (fun s5 S5 => ?_) (.inr hln)
      refine wpAny_mono ((hsu a (X.pn ++ pins)).run [] s5 _ _ _ S5 (yes rfl a na)) ?_ (fun _ _ z => False.elim z)
      intro f s6 hsp
      have back : ∀ {σ6 : L2.St} {H6 : Hp} {Q : Shared → Prop}, Inv (X.suite a (X.pn ++ pins)) [] σ6 H6 s6 → (∀ s7, Inv X pins (σ6.set i none) H6 s7 → Q s7) →
          wpAny (model X.prog X.w) X.A (do bindName X.env n .none; unbindBehindTheSuite X.env n pos') (fun _ s7 => Q s7) X.xe s6 := by
        intro σ6 H6 Q S6 hq
        exact gone_ok (inv_unsu S6 ok) hN hi hln hq
      cases f with
      | ret u =>
        obtain ⟨v6, σ6, H6, S6, r6, q6⟩ := hsp
        exact back S6 fun s7 J7 => ⟨_, _, _, J7, r6, q6⟩
      | next => obtain ⟨σ6, H6, S6, q6⟩ := hsp; exact back S6 fun s7 J7 => ⟨_, _, J7, q6⟩
      | brk => obtain ⟨σ6, H6, S6, q6⟩ := hsp; exact back S6 fun s7 J7 => ⟨_, _, J7, q6⟩
      | cont => obtain ⟨σ6, H6, S6, q6⟩ := hsp; exact back S6 fun s7 J7 => ⟨_, _, J7, q6⟩
  have run := (hb (wAsV X.K c i ts Wout D) (X.pn ++ pins) xe1 takes PassesOwn.looking).run [] s σ H D (I.toTry _) h
  refine wpAny_mono run ?_ (fun e s1 he => he)
  intro f s1 hsp
  cases f with
  | ret u =>
    obtain ⟨v, σ', H', J', r, q⟩ := hsp
    exact ⟨v, σ', H', J'.ofTry ok, r, q⟩
  | next =>
    obtain ⟨σ', H', J', q⟩ := hsp
    exact wpAny_execs_nil ⟨σ', H', J'.ofTry ok, q⟩
  | brk => obtain ⟨σ', H', J', q⟩ := hsp; exact ⟨σ', H', J'.ofTry ok, q⟩
  | cont => obtain ⟨σ', H', J', q⟩ := hsp; exact ⟨σ', H', J'.ofTry ok, q⟩
end

/-! ### what is asked of a kept exception -/
theorem ev_inst {P : Program} {w : World} {H : Hp} {h : Heap} {a D : Addr} {d : Option Addr} (hok : HOk P w H h) (he : H a = some (EV (.ref D) d a)) (hd : ∀ dd, d = some dd → ∃ fs, H dd = some (.xd fs)) :
    ∃ oe od, PySem.W.InstAt h a oe D od := by
  obtain ⟨oe, vs, g, z, q⟩ := ev_at hok he
  have no : PySem.W.notCls oe = true := by unfold PySem.W.notCls; rw [q] <;> rfl
  cases d with
  | none => exact ⟨oe, none, g, z.1, no, by rw [z.2]; trivial⟩
  | some dd =>
    obtain ⟨fs, hf⟩ := hd dd rfl
    have hx : ObjOk P w H h dd (.xd fs) := hok dd _ hf
    obtain ⟨mA, hns, hr⟩ := hx
    obtain ⟨od, ho, hl⟩ := lookIn_ns hns
    exact ⟨oe, some od, g, z.1, no, by rw [z.2]; exact ho⟩
def rIsV (K : PySem.W.Frag) : List V → Hp → VK → Prop := fun xs H Q => ∃ (a D : Addr) (d : Option Addr) (c : V) (cv : Value) (b : Bool), xs = [.ref a, c] ∧ H a = some (EV (.ref D) d a) ∧
  (∀ dd, d = some dd → ∃ fs, H dd = some (.xd fs)) ∧ ExcC K D ∧ (∀ u, RelV c u → u = cv) ∧ PySem.W.kitOne K (.ref D) cv = some b ∧ Q (.bl b) H
theorem call_isV {X : Cx} : CallR X (.builtin "isinstance") (rIsV X.K) := by
  intro pins s σ H xs us Q I r h
  obtain ⟨a, D, d, c, cv, b, rfl, ha, hd, C, hcv, e, q⟩ := h
  cases r with
  | cons rx rr =>
  cases rr with
  | cons rt rr =>
  cases rr
  cases rx
  cases hcv _ rt
  obtain ⟨oe, od, J⟩ := ev_inst I.hok ha hd
  obtain ⟨cd, hc, _⟩ := PySem.W.any_some C.hd
  refine PySem.W.kia_one (PySem.W.kitx_exc (by rw [hc]; rfl) C.hg C.hk C.hs C.ha C.hn C.ht C.hm) I.kIn J e (fun z => nomatch z) ?_
  intro tk
  exact ⟨.bl b, H, I.kept (t' := tk) fun _ _ z => z, rfl, q⟩
/-- e.f, e a kept exception -/
def tFldV (K : PySem.W.Frag) (f : Str) (te : TE) : TE := fun σ H Q => te σ H fun x H1 => ∃ (a C dd : Addr) (fs : List (Str × V)) (v : V), x = .ref a ∧ H1 a = some (EV (.ref C) (some dd) a) ∧ H1 dd = some (.xd fs) ∧
  XfC K C ∧ PySem.W.findIn K (.ref C) f = some none ∧ fs.lookup f = some v ∧ Q v H1
theorem pe_fldV {X : Cx} {e : Expr} {te : TE} {pos : Pos} {n : Str} (he : PE X e te) (hb : attributeBase e n X.env (eval e X.env) = eval e X.env := by rfl) : PE X (.Attribute e n pos) (tFldV X.K n te) := by
  constructor
  intro pins s σ H Q I h
  apply attr_of hb
  refine thn (he.run pins s σ H _ I h) ?_
  rintro u s1 ⟨x, H1, I1, rx, a, C, dd, fs, v, rfl, ha, hdd, T, hno, l, q⟩
  obtain rfl : u = Value.ref a := rx
  obtain ⟨oe, vs, g, z, q3⟩ := ev_at I1.hok ha
  have no : PySem.W.notCls oe = true := by unfold PySem.W.notCls; rw [q3] <;> rfl
  have hx : ObjOk X.prog X.w H1 s1.heap dd (.xd fs) := I1.hok dd _ hdd
  obtain ⟨mA, hns, hr⟩ := hx
  obtain ⟨od, ho, hl⟩ := lookIn_ns hns
  have rn := hr n
  rw [l] at rn
  obtain ⟨u, hu, ru⟩ := RelO.some_of rn
  have J : PySem.W.InstAt s1.heap a oe C (some od) := ⟨g, z.1, no, by rw [z.2]; exact ho⟩
  exact HandSPX.exc_get I1.kIn J T.ga T.gg T.exC (PySem.W.findObj_own T.hdC hno rfl (by rw [hl, hu])) (handed_of ru) ⟨v, H1, I1.tok _, ru, q⟩
/-! ### the head's facts, with own ones -/
def kX (n : Nat) (g : Addr → Option Obj) : PySem.W.Frag := He.frG g (sysModules :: He.asD g n)
def sysB (K : PySem.W.Frag) : Bool := (K.lookup sysModules).isSome
def obX (n : Nat) (cs : List (PySem.W.Frag → Bool)) (fa : List He.Fa) (fn : List He.DefD) (g : Addr → Option Obj) : Bool × He.AlD := (cs.all fun c => c (kX n g), He.obsD fa fn (kX n g))
def hookX (n : Nat) (cs : List (PySem.W.Frag → Bool)) (fa : List He.Fa) (fn : List He.DefD) : PySem.W.Hook where
  α := Bool × He.AlD
  obs := fun s => obX n cs fa fn s.heap.get?
  val := fun _ => (true, He.valD fn)
  says := fun _ h => ∃ K : PySem.W.Frag, K.In h ∧ (cs.all fun c => c K) = true ∧ He.SaysD fa fn K
  of := fun _ _ e => ⟨_, He.frG_in, congrArg (fun z : Bool × He.AlD => z.1) e, congrArg (fun z : Bool × He.AlD => z.2) e⟩
  keeps := fun _ _ _ h k => by
    obtain ⟨K, hK, c⟩ := h
    exact ⟨K, PySem.W.Frag.In.keeps hK k, c⟩
theorem obX_eq {n : Nat} {cs : List (PySem.W.Frag → Bool)} {fa : List He.Fa} {fn : List He.DefD} {g : Addr → Option Obj} {s : Shared} (h : ∀ a, g a = s.heap.get? a) : obX n cs fa fn g = (hookX n cs fa fn).obs s := by
  have e : g = s.heap.get? := funext h
  rw [e] <;> rfl
/-! ### calls whose exceptions are caught or let out -/
theorem passE {P : Program} {w : World} {K : PySem.W.Frag} {mg : Str → Option Value} {base : Heap} {N : List Str} {q : Str} {sc : Scope} {f : Addr} {cd : Value} {A : Around} {o : List Env} {s : Shared} {H : Hp} {E : XK} :
    Passes (L2.CX P w) (cxOf (L2.CX P w) P w K mg base N q sc f cd A o s H E) E := passes_call (W := fun cls d _ H => E cls d H) (takes_of rfl rfl rfl rfl) fun _ _ _ _ h => h
section
variable {X : Cx} {C : CXT} {k : Nat} {f : Addr} {fd : FuncData} {ps : List Str} {sp : Sp} {E : L2.St → XK} {x : Str} {p pos : Pos} {e : Expr} {es : List Expr} {t : TA}
theorem run_gS {pins : List (Addr × Obj)} {σ : L2.St} {H : Hp} {s : Shared} {Q : VK} {us : List Value} {vs : List V}
    (F : GOk X.prog X.w X.K X.mg X.base C k f fd ps sp) (hr : Room k X.A) (hc : Clean X.A) (hb : Binds X.K fd ps []) (hx : PassesAt C X σ (E σ))
    (I : Inv X pins σ H s) (r : Vals vs us) (h : sp vs H Q (E σ)) : wpAny (model X.prog X.w) X.A (call (.ref f) us) (EP X pins σ Q) X.xe s := by
  have len : us.length = ps.length := r.length ▸ F.arity _ _ _ _ h
  have b := hb s us I.kIn (by rw [List.append_nil]; exact len)
  rw [List.append_nil] at b
  refine wpAny_call (codeAny_mono (F.go X.A X.stack s H ⟨us, []⟩ us vs Q (E σ) hr hc I.env0 b r h) ?_)
  rintro (er | fl) s' z
  · exact hx pins H s er s' I z
  · cases fl with
    | ret u => exact I.after z
    | _ => exact z.elim
theorem pe_callGS (F : GOk X.prog X.w X.K X.mg X.base C k f fd ps sp) (hr : Room k X.A) (hc : Clean X.A) (hg : Gl X x) (hm : X.mg x = some (.ref f))
    (hk : PySem.W.keepIn X.K (.ref f) = true) (hb : Binds X.K fd ps []) (hx : ∀ σ, PassesAt C X σ (E σ)) (ha : PA X (e :: es) t)
    (hdb : (x == ("__debug__" : Str)) = false := by decide)
    (he : starEach (e :: es) X.env = (false, eval e X.env) :: starEach es X.env := by rfl)
    (hpl : (backTo pos (starEach es X.env)).any (·.1) = false := by rfl) :
    PE X (.Call (.Name x p) (e :: es) [] pos) (tCallS sp E t) := by
  constructor
  intro pins s σ H Q I h
  refine wpAny_Call_Name_kw (ld_glob I hg hm ?_ hdb)
  refine PySem.W.callWith_K (h₀ := X.base) I.ok.mod.kin hk (thn (ha.run pos pins s σ H _ I h) ?_) he hpl
  rintro us s1 ⟨vs, H1, I1, r, q⟩
  exact ⟨I1.kIn, run_gS F hr hc hb (hx σ) I1 r q⟩
end
/-! ### the classes of errors -/
def errN : Nat → Str
  | 0 => "InvalidOperations" | 1 => "InvalidCuts" | 2 => "InvalidText" | 3 => "CannotDo" | 4 => "TooLarge" | 5 => "TooDeep" | 6 => "OverBudget" | 7 => "InvalidLength" | 8 => "InvalidSlots"
  | 9 => "InvalidRounds" | 10 => "InvalidState" | 11 => "InvalidStep" | 12 => "InvalidNumber" | 13 => "InvalidBudget" | 14 => "InvalidCall" | 15 => "Nothing" | 16 => "InvalidCommand" | _ => "SlotError"
abbrev eC (K : PySem.W.Frag) (i : Nat) : Addr := He.ga K (errN i)
def excCB (K : PySem.W.Frag) (D : Addr) : Bool :=
  decide (PySem.W.findIn K (.ref D) "__getattribute__" = some (some (.builtin "BaseException.__getattribute__"))) && (decide (PySem.W.findIn K (.ref D) "__getattr__" = some none) &&
  (decide (PySem.W.subIn K (.ref D) (.type "BaseException") = some true) && (PySem.W.hasDictIn K D && (decide (PySem.W.findIn K (.ref D) "__class__" = some (some (.builtin "object.__class__"))) &&
  (decide (PySem.W.specialIn K (.builtin "object.__class__") "__get__" = some (some (.builtin "getset_descriptor.__get__"))) && (decide (PySem.W.takesIn K (.builtin "object.__class__") = some true) &&
  decide (PySem.W.mroIn K D (.type "object") = some true)))))))
theorem excCB_ok {K : PySem.W.Frag} {D : Addr} (h : excCB K D = true) : ExcC K D := by
  simp only [excCB, Bool.and_eq_true, decide_eq_true_eq] at h
  obtain ⟨h1, h2, h3, h4, h5, h6, h7, h8⟩ := h
  exact ⟨h1, h2, h3, h4, h5, h6, h7, h8⟩
/-- of one class of errors -/
def errB (K : PySem.W.Frag) (i : Nat) : Bool :=
  decide (PySem.W.nsIn K mainGlobals (errN i) = some (some (.ref (eC K i)))) && PySem.W.keepIn K (.ref (eC K i)) && decide (PySem.W.typeIn K (.ref (eC K i)) = some (.type "type")) && excCB K (eC K i) &&
  decide (PySem.W.kitOne K (.ref (eC K i)) (.type "ValueError") = some true) && decide (PySem.W.exmOne K (.ref (eC K i)) (.ref (eC K 17)) = some true) && decide (PySem.W.kitOne K (.ref (eC K i)) (.ref (eC K 17)) = some true) &&
  decide (i < 7 ∨ PySem.W.excIn K (eC K i) He.veBase "ValueError.__new__" = true)
def errsB (K : PySem.W.Frag) : Bool := (List.range 18).all (errB K) && (List.range 18).all fun i => (List.range 17).all fun j => decide (PySem.W.kitOne K (.ref (eC K i)) (.ref (eC K j)) = some (i == j))
structure Errs (K : PySem.W.Frag) (mg : Str → Option Value) : Prop where
  gl : ∀ i, i < 18 → mg (errN i) = some (.ref (eC K i))
  kp : ∀ i, i < 18 → PySem.W.keepIn K (.ref (eC K i)) = true
  ty : ∀ i, i < 18 → PySem.W.typeIn K (.ref (eC K i)) = some (.type "type")
  xc : ∀ i, i < 18 → ExcC K (eC K i)
  kitV : ∀ i, i < 18 → PySem.W.kitOne K (.ref (eC K i)) (.type "ValueError") = some true
  exm : ∀ i, i < 18 → PySem.W.exmOne K (.ref (eC K i)) (.ref (eC K 17)) = some true
  kitS : ∀ i, i < 18 → PySem.W.kitOne K (.ref (eC K i)) (.ref (eC K 17)) = some true
  tx : ∀ i, i < 18 → 7 ≤ i → PySem.W.excIn K (eC K i) He.veBase "ValueError.__new__" = true
  kit : ∀ i j, i < 18 → j < 17 → PySem.W.kitOne K (.ref (eC K i)) (.ref (eC K j)) = some (i == j)
theorem errs_ok {K : PySem.W.Frag} {h : Heap} {mg : Str → Option Value} (X : K.In h) (G : h.Ns mainGlobals mg) (c : errsB K = true) : Errs K mg := by
  obtain ⟨c1, c2⟩ := Bool.and_eq_true_iff.mp c
  have one : ∀ i, i < 18 → errB K i = true := fun i hi => List.all_eq_true.mp c1 i (List.mem_range.mpr hi)
  have two : ∀ i j, i < 18 → j < 17 → PySem.W.kitOne K (.ref (eC K i)) (.ref (eC K j)) = some (i == j) := fun i j hi hj =>
    of_decide_eq_true (List.all_eq_true.mp (List.all_eq_true.mp c2 i (List.mem_range.mpr hi)) j (List.mem_range.mpr hj))
  have all : ∀ i, i < 18 → PySem.W.nsIn K mainGlobals (errN i) = some (some (.ref (eC K i))) ∧ PySem.W.keepIn K (.ref (eC K i)) = true ∧ PySem.W.typeIn K (.ref (eC K i)) = some (.type "type") ∧ excCB K (eC K i) = true ∧
      PySem.W.kitOne K (.ref (eC K i)) (.type "ValueError") = some true ∧ PySem.W.exmOne K (.ref (eC K i)) (.ref (eC K 17)) = some true ∧ PySem.W.kitOne K (.ref (eC K i)) (.ref (eC K 17)) = some true ∧
      (i < 7 ∨ PySem.W.excIn K (eC K i) He.veBase "ValueError.__new__" = true) := fun i hi => by
    have := one i hi
    simpa only [errB, Bool.and_eq_true, decide_eq_true_eq, and_assoc] using this
  exact ⟨fun i hi => PySem.W.mg_of X G (all i hi).1, fun i hi => (all i hi).2.1, fun i hi => (all i hi).2.2.1, fun i hi => excCB_ok (all i hi).2.2.2.1, fun i hi => (all i hi).2.2.2.2.1, fun i hi => (all i hi).2.2.2.2.2.1,
    fun i hi => (all i hi).2.2.2.2.2.2.1, fun i hi h7 => (all i hi).2.2.2.2.2.2.2.resolve_left (by omega), two⟩
/-- for laws that hold some of the classes alone -/
structure ErrI (K : PySem.W.Frag) (mg : Str → Option Value) (I : List Nat) : Prop where
  gl : ∀ i, i ∈ I → mg (errN i) = some (.ref (eC K i))
  kp : ∀ i, i ∈ I → PySem.W.keepIn K (.ref (eC K i)) = true
  ty : ∀ i, i ∈ I → PySem.W.typeIn K (.ref (eC K i)) = some (.type "type")
  xc : ∀ i, i ∈ I → ExcC K (eC K i)
  exm : ∀ i j, i ∈ I → j ∈ I → PySem.W.exmOne K (.ref (eC K i)) (.ref (eC K j)) = some (i == j || j == 17)
  tx : ∀ i, i ∈ I → 7 ≤ i → PySem.W.excIn K (eC K i) He.veBase "ValueError.__new__" = true
def errIB (I : List Nat) (K : PySem.W.Frag) : Bool := I.all (errB K) && I.all fun i => I.all fun j => decide (PySem.W.exmOne K (.ref (eC K i)) (.ref (eC K j)) = some (i == j || j == 17))
theorem errI_ok {K : PySem.W.Frag} {h : Heap} {mg : Str → Option Value} {I : List Nat} (X : K.In h) (G : h.Ns mainGlobals mg) (c : errIB I K = true) : ErrI K mg I := by
  obtain ⟨c1, c2⟩ := Bool.and_eq_true_iff.mp c
  have all : ∀ i, i ∈ I → PySem.W.nsIn K mainGlobals (errN i) = some (some (.ref (eC K i))) ∧ PySem.W.keepIn K (.ref (eC K i)) = true ∧ PySem.W.typeIn K (.ref (eC K i)) = some (.type "type") ∧ excCB K (eC K i) = true ∧
      PySem.W.kitOne K (.ref (eC K i)) (.type "ValueError") = some true ∧ PySem.W.exmOne K (.ref (eC K i)) (.ref (eC K 17)) = some true ∧ PySem.W.kitOne K (.ref (eC K i)) (.ref (eC K 17)) = some true ∧
      (i < 7 ∨ PySem.W.excIn K (eC K i) He.veBase "ValueError.__new__" = true) := fun i hi => by
    have := List.all_eq_true.mp c1 i hi
    simpa only [errB, Bool.and_eq_true, decide_eq_true_eq, and_assoc] using this
  exact ⟨fun i hi => PySem.W.mg_of X G (all i hi).1, fun i hi => (all i hi).2.1, fun i hi => (all i hi).2.2.1, fun i hi => excCB_ok (all i hi).2.2.2.1,
    fun i j hi hj => of_decide_eq_true (List.all_eq_true.mp (List.all_eq_true.mp c2 i hi) j hj), fun i hi h7 => (all i hi).2.2.2.2.2.2.2.resolve_left (by omega)⟩
theorem isV {K : PySem.W.Frag} {mg : Str → Option Value} (er : Errs K mg) {H : Hp} {a : Addr} {d : Option Addr} {i : Nat} (j : Nat) {Q : VK} (ha : H a = some (EV (.ref (eC K i)) d a)) (hd : ∀ dd, d = some dd → ∃ fs, H dd = some (.xd fs))
    (hi : i < 18) (hj : j < 17) (q : Q (.bl (i == j)) H) : rIsV K [.ref a, .ref (eC K j)] H Q :=
  ⟨a, _, d, _, _, _, rfl, ha, hd, er.xc i hi, fun u r => r, er.kit i j hi hj, q⟩
theorem isVE {K : PySem.W.Frag} {mg : Str → Option Value} (er : Errs K mg) {H : Hp} {a : Addr} {d : Option Addr} {i : Nat} {Q : VK} (ha : H a = some (EV (.ref (eC K i)) d a)) (hd : ∀ dd, d = some dd → ∃ fs, H dd = some (.xd fs))
    (hi : i < 18) (q : Q (.bl true) H) : rIsV K [.ref a, .ty "ValueError"] H Q :=
  ⟨a, _, d, _, _, _, rfl, ha, hd, er.xc i hi, fun u r => r, er.kitV i hi, q⟩
/-! ### data with empty dicts -/
def flat : PyData → Bool
  | .list _ => false
  | .tuple _ => false
  | .dict _ => false
  | _ => true
mutual
inductive Df (K : PySem.W.Frag) (H : Hp) : V → PyData → Prop where
  | dp {v : V} {d : PyData} : flat d = true → Dp K H v d → Df K H v d
  | lst {a : Addr} {xs : List V} {ds : List PyData} : H a = some (.lst xs) → DfAll K H xs ds → Df K H (.ref a) (.list ds)
  | tup {a : Addr} {xs : List V} {ds : List PyData} : H a = some (.tup xs) → DfAll K H xs ds → Df K H (.ref a) (.tuple ds)
  | dct {a : Addr} : H a = some (.dK []) → Df K H (.ref a) (.dict [])
inductive DfAll (K : PySem.W.Frag) (H : Hp) : List V → List PyData → Prop where
  | nil : DfAll K H [] []
  | cons {v : V} {vs : List V} {d : PyData} {ds : List PyData} : Df K H v d → DfAll K H vs ds → DfAll K H (v :: vs) (d :: ds)
end

section
variable {K : PySem.W.Frag} {H H' : Hp}
theorem df_ex (e : Ex H H') : ∀ (d : PyData) (v : V), Df K H v d → Df K H' v d
  | .list ds, _, h => by
    cases h with
    | dp f h => cases f
    | lst h a => exact .lst (e _ _ h) (go ds _ a)
  | .tuple ds, _, h => by
    cases h with
    | dp f h => cases f
    | tup h a => exact .tup (e _ _ h) (go ds _ a)
  | .dict kvs, _, h => by
    cases h with
    | dp f h => cases f
    | dct h => exact .dct (e _ _ h)
  | .none, _, h => by cases h with | dp f h => exact .dp f (dp_ex e _ _ h)
  | .bool _, _, h => by cases h with | dp f h => exact .dp f (dp_ex e _ _ h)
  | .int _, _, h => by cases h with | dp f h => exact .dp f (dp_ex e _ _ h)
  | .str _, _, h => by cases h with | dp f h => exact .dp f (dp_ex e _ _ h)
where go : ∀ (ds : List PyData) (vs : List V), DfAll K H vs ds → DfAll K H' vs ds
  | [], _, h => by cases h; exact .nil
  | d :: ds, _, h => by cases h with | cons h r => exact .cons (df_ex e d _ h) (go ds _ r)
end
section
variable {X : Cx} {pins : List (Addr × Obj)} {σ : L2.St} {H : Hp} {s : Shared}
theorem tr_ne {a : Addr} {o : HO} (I : Inv X pins σ H s) (sy : (X.K.lookup sysModules).isSome = true) (e : H a = some o) : sysModules ≠ a := fun z => by
  obtain ⟨o', ho⟩ := Option.isSome_iff_exists.mp sy
  have := (I.bs _ _ (I.ok.mod.kin _ _ ho)).2
  rw [z, e] at this
  cases this
theorem df_reads (I : Inv X pins σ H s) (sy : (X.K.lookup sysModules).isSome = true) : ∀ (d : PyData) (v : V) (u : Value), Df X.K H v d → RelV v u → ∃ as, Reads s.heap u d as ∧ sysModules ∉ as
  | .list ds, _, _, h, r => by
    cases h with
    | dp f h => cases f
    | lst h a =>
      cases r
      obtain ⟨_, its, n, rv, h1⟩ := (show ObjOk X.prog X.w H s.heap _ (.lst _) from I.hok _ _ h)
      obtain ⟨as, ra, na⟩ := go ds _ its a rv
      exact ⟨_, Reads.list h1 rfl rfl (by simpa using ra), fun z => (List.mem_cons.mp z).elim (tr_ne I sy h) na⟩
  | .tuple ds, _, _, h, r => by
    cases h with
    | dp f h => cases f
    | tup h a =>
      cases r
      obtain ⟨_, its, rv, o, h1, h2, n, h3⟩ := (show ObjOk X.prog X.w H s.heap _ (.tup _) from I.hok _ _ h)
      obtain ⟨as, ra, na⟩ := go ds _ its a rv
      exact ⟨_, Reads.tuple h1 h2 h3 (by simpa using ra), na⟩
  | .dict kvs, _, _, h, r => by
    cases h with
    | dp f h => cases f
    | dct h =>
      cases r
      obtain ⟨_, _, vs, kv, o, es, ep, h1, h2, h3, _, pr, _⟩ := (show ObjOk X.prog X.w H s.heap _ (.dK []) from I.hok _ _ h)
      cases kv
      have e0 : es.toList = [] := by
        cases hh : es.toList with
        | nil => rfl
        | cons x y => rw [hh] at pr; cases pr
      exact ⟨_, Reads.dict (as := []) (bs := []) h1 h2.1 h3 (by rw [e0]; exact .nil) (by rw [e0]; exact .nil), fun z => (List.mem_cons.mp z).elim (tr_ne I sy h) (fun z => nomatch z)⟩
  | .none, _, _, h, r => by cases h with | dp f h => cases h; cases r; exact ⟨_, Reads.none, fun z => nomatch z⟩
  | .bool b, _, _, h, r => by cases h with | dp f h => cases h; cases r; exact ⟨_, Reads.bool b, fun z => nomatch z⟩
  | .int i, _, _, h, r => by cases h with | dp f h => cases h; obtain ⟨t, rfl⟩ := r; exact ⟨_, Reads.int i t, fun z => nomatch z⟩
  | .str x, _, _, h, r => by cases h with | dp f h => cases h; obtain ⟨t, rfl⟩ := r; exact ⟨_, Reads.str x t, fun z => nomatch z⟩
where go : ∀ (ds : List PyData) (vs : List V) (us : List Value), DfAll X.K H vs ds → Vals vs us → ∃ as, ReadsAll s.heap us ds as ∧ sysModules ∉ as
  | [], _, _, h, r => by cases h; cases r; exact ⟨_, .nil, fun z => nomatch z⟩
  | d :: ds, _, _, h, r => by
    cases h with
    | cons h1 h2 =>
    cases r with
    | cons r1 r2 =>
    obtain ⟨as, q1, n1⟩ := df_reads I sy d _ _ h1 r1
    obtain ⟨bs, q2, n2⟩ := go ds _ _ h2 r2
    exact ⟨_, .cons q1 q2, fun z => (List.mem_append.mp z).elim n1 n2⟩
end
/-- a text of at most m signs, at most k deep -/
def Good (k m : Nat) (d : PyData) : Prop := d.showable = true ∧ d.depth ≤ k ∧ d.shown.length ≤ m
theorem good_fine {n : Nat} {d : PyData} (h : fine n d = true) : Good n (sz d) d := by
  obtain ⟨h1, _, h3, h4⟩ := fine_ok d n h
  exact ⟨h1, h3, h4⟩
theorem good_dict {k : Nat} : Good (k + 1) 2 (.dict []) := ⟨by decide +kernel, Nat.le_trans (by decide +kernel : (PyData.dict []).depth ≤ 1) (by omega), by decide +kernel⟩
/-- repr of a new list -/
def rReprF (K : PySem.W.Frag) : List V → Hp → VK → Prop := fun xs H Q => ∃ a ds, xs = [.ref a] ∧ Df K H (.ref a) (.list ds) ∧ Good 20 16000000 (.list ds) ∧ Q (.str (PyData.shown (.list ds))) H
theorem call_repr_F {X : Cx} {k : Nat} (hr : Room k X.A) (hc : Clean X.A) (sy : (X.K.lookup sysModules).isSome = true) : CallR X (.builtin "repr") (rReprF X.K) := by
  intro pins s σ H xs us Q I r h
  obtain ⟨a, ds, rfl, hd, ⟨g1, g2, g3⟩, q⟩ := h
  cases r with
  | cons r0 r1 =>
  cases r1
  obtain ⟨as, rd, na⟩ := df_reads I sy _ _ _ hd r0
  cases r0
  have hu := hr.units
  exact repr_of_reads' rd g1 (fun _ => na) hc (by omega) (fun _ _ z => z) (fun h' u tk kk => ⟨.str _, H, I.kept kk, ⟨_, rfl⟩, q⟩) (by rw [sizeLine_eq]; omega)
theorem good_list {k m : Nat} {ds : List PyData} (h : ∀ d ∈ ds, Good k m d) : Good (k + 1) ((m + 2) * ds.length + 3) (.list ds) := by
  have one : ∀ ds : List PyData, (∀ d ∈ ds, Good k m d) → PyData.showableAll ds = true ∧ PyData.depthAll ds ≤ k ∧ ((PyData.shownAll ds).map (·.length)).sum + 2 * (PyData.shownAll ds).length ≤ (m + 2) * ds.length := by
    intro ds
    induction ds with
    | nil => intro _; exact ⟨rfl, by show 0 ≤ k; omega, by simp [PyData.shownAll]⟩
    | cons d ds ih =>
      intro h
      obtain ⟨a1, a2, a3⟩ := h d (List.mem_cons_self ..)
      obtain ⟨b1, b2, b3⟩ := ih fun d hd => h d (List.mem_cons_of_mem _ hd)
      refine ⟨by simp only [PyData.showableAll, a1, b1, Bool.and_self], by simp only [PyData.depthAll]; omega, ?_⟩
      simp only [PyData.shownAll, List.map_cons, List.sum_cons, List.length_cons]
      rw [show (m + 2) * (ds.length + 1) = (m + 2) * ds.length + (m + 2) by rw [Nat.mul_add, Nat.mul_one]]
      omega
  obtain ⟨c1, c2, c3⟩ := one ds h
  refine ⟨by simpa only [PyData.showable] using c1, by simp only [PyData.depth]; omega, ?_⟩
  have := listText_len_le (PyData.shownAll ds)
  simp only [PyData.shown]
  omega
/-! ### classes of errors with an argument -/
def oexB (K : PySem.W.Frag) (C : Addr) : Bool := match K.lookup C with
  | some ⟨.type "type", _, .cls cd, sl⟩ => (match cd.mro, sl.toList with
    | .ref C' :: bm, [_, _, _, _, some (.builtin n), _] => C' == C && n == "ValueError.__new__" && !cd.hasDel && cd.hasDict && PySem.HandSPX.refsVE bm
    | _, _ => false)
  | _ => false
theorem oexB_ok {K : PySem.W.Frag} {C : Addr} (q : oexB K C = true) : ∃ nm q N bs bm sn sub ab col dd k0 k1 k2 k3 k5, K.lookup C = some (excClassObj nm q C N bs bm true sn sub ab col dd k0 k1 k2 k3 k5 "ValueError.__new__") ∧ PySem.HandSPX.refsVE bm = true := by
  unfold oexB at q
  split at q
  · rename_i dd cd sl ho
    split at q
    · rename_i C' bm k0 k1 k2 k3 n k5 hm hs
      simp only [Bool.and_eq_true, beq_iff_eq, Bool.not_eq_true'] at q
      obtain ⟨⟨⟨⟨rfl, rfl⟩, hdel⟩, hdc⟩, hr⟩ := q
      obtain ⟨nm, bs, mro, ns, qn, hd, sn, sub, ab, col, del⟩ := cd
      dsimp only at hm hdel hdc
      subst hm hdel hdc
      have hsl : sl = #[k0, k1, k2, k3, some (.builtin "ValueError.__new__"), k5] := by
        obtain ⟨l⟩ := sl
        simp only at hs
        rw [hs]
      subst hsl
      exact ⟨nm, qn, ns, bs, bm, sn, sub, ab, col, dd, k0, k1, k2, k3, k5, ho, hr⟩
    · cases q
  · cases q
/-- of a class whose __init__, at fI, keeps its argument in the field f -/
structure InitF (K : PySem.W.Frag) (C fI : Addr) (f : Str) : Prop where
  ox : OexC K C
  no : PySem.W.findIn K (.ref C) f = some none
  ini : PySem.W.findIn K (.ref C) "__init__" = some (some (.ref fI))
  ty : PySem.W.typeIn K (.ref fI) = some (.type "function")
def initB (K : PySem.W.Frag) (i : Nat) (f : Str) : Bool :=
  oexB K (eC K i) && decide (PySem.W.findIn K (.ref (eC K i)) "__setattr__" = some (some (.builtin "object.__setattr__"))) && decide (PySem.W.subIn K (.ref (eC K i)) (.type "BaseException") = some true) &&
  decide (PySem.W.typeIn K (.ref (eC K i)) = some (.type "type")) && PySem.W.keepIn K (.ref (eC K i)) && decide (PySem.W.findIn K (.ref (eC K i)) f = some none) &&
  decide (PySem.W.findIn K (.ref (eC K i)) "__init__" = some (some (.ref (He.ma K (eC K i) "__init__")))) && decide (PySem.W.typeIn K (.ref (He.ma K (eC K i) "__init__")) = some (.type "function"))
theorem initB_ok {K : PySem.W.Frag} {i : Nat} {f : Str} (h : initB K i f = true) : InitF K (eC K i) (He.ma K (eC K i) "__init__") f := by
  simp only [initB, Bool.and_eq_true, decide_eq_true_eq, and_assoc] at h
  obtain ⟨h1, h2, h3, h4, h5, h6, h7, h8⟩ := h
  exact ⟨⟨oexB_ok h1, h2, h3, h4, h5⟩, h6, h7, h8⟩
/-- what such an __init__ promises -/
def spIn (K : PySem.W.Frag) (f : Str) : Sp := fun vs H Q _ => ∃ (a C : Addr) (v : V), vs = [.ref a, v] ∧ OexC K C ∧ PySem.W.findIn K (.ref C) f = some none ∧ H a = some (exo a C none) ∧
  ∀ dx, H dx = none → dx ≠ a → Q .non (upd (upd H dx (exd dx [(f, v)])) a (exo a C (some dx)))
theorem spIn_len {K : PySem.W.Frag} {f : Str} {n : List Str} (hn : n.length = 2) : ∀ vs H Q E, spIn K f vs H Q E → vs.length = n.length := by
  rintro vs H Q E ⟨a, C, v, rfl, _⟩
  exact hn.symm
/-- C(e), the field f holding e -/
def tMkI (C : Addr) (f : Str) (ta : TA) : L2.St → Hp → XK → Prop := fun σ H Q => ta σ H fun vs H1 => ∃ v, vs = [v] ∧ ∀ d, H1 d = none → Q (.ref C) (some d) (upd H1 d (.xd [(f, v)]))
section
variable {X : Cx} {C fI : Addr} {f x : Str} {k : Nat} {fd : FuncData} {n : List Str} {e : Expr} {ta : TA} {p pos : Pos}
theorem pmk_init {ps : List Str} (T : InitF X.K C fI f) (F1 : FnOk X.prog X.w X.K X.mg X.base (L2.CX X.prog X.w) k fI fd ps (spIn X.K f)) (hr : Room (k + 1) X.A) (hb : Binds X.K fd ps []) (hg : Gl X x) (hm : X.mg x = some (.ref C)) (ha : PA X [e] ta)
    (hdb : (x == ("__debug__" : Str)) = false := by decide) (he : starEach [e] X.env = (false, eval e X.env) :: starEach [] X.env := by rfl) :
    PMk X (.Call (.Name x p) [e] [] pos) (tMkI C f ta) := by
  intro pins s σ H Q I h
  have ha2 : PA X [e] (fun σ H R => ∃ R', ta σ H R' ∧ ∀ vs H1, R' vs H1 → R vs H1) := by
    constructor
    rintro pos pins s σ H R I ⟨R', h, i⟩
    refine wpAny_mono (ha.run pos pins s σ H R' I h) ?_ (fun _ _ x => x)
    rintro us s1 ⟨vs, H1, I1, r, q⟩
    exact ⟨vs, H1, I1, r, i _ _ q⟩
  have gen := pmk_oex (p := p) (pos := pos) (CX := L2.CX X.prog X.w) T.ox T.ini T.ty F1 hr hb .nil (passL (X := X)) hg hm ha2 hdb he (by rfl)
  refine gen pins s σ H Q I ⟨_, h, ?_⟩
  rintro vs H1 ⟨v, rfl, q⟩
  refine ⟨by show 1 ≤ 1000; decide, fun a na => ⟨a, C, v, rfl, T.ox, T.no, upd_same, fun dx hdx hne => ⟨rfl, dx, [(f, v)], upd_same, by rw [upd_ne hne, upd_same], ?_, ?_⟩⟩⟩
  · rw [upd_ne hne] at hdx
    exact hdx
  · rw [upd_ne hne] at hdx
    have e2 : upd (del (upd (upd (upd H1 a (exo a C none)) dx (exd dx [(f, v)])) a (exo a C (some dx))) a) dx (HO.xd [(f, v)]) = upd H1 dx (.xd [(f, v)]) := by
      funext b
      by_cases h1 : b = dx
      · rw [h1, upd_same, upd_same]
      · rw [upd_ne h1, upd_ne h1]
        by_cases h2 : b = a
        · rw [h2, del_same, na]
        · rw [del_ne h2, upd_ne h2, upd_ne h1, upd_ne h2]
    rw [e2]
    exact q dx hdx
/-- an error that is made and kept -/
def tMkV (tm : L2.St → Hp → XK → Prop) : TE := fun σ H Q => tm σ H fun cls d H1 => ∀ a, H1 a = none → Q (.ref a) (upd H1 a (EV cls d a))
theorem pe_mkV {e : Expr} {tm : L2.St → Hp → XK → Prop} (he : PMk X e tm) : PE X e (tMkV tm) := by
  constructor
  intro pins s σ H Q I h
  refine thn (he pins s σ H _ I h) ?_
  rintro u s1 ⟨a, oe, vs, sI, H1, cls, d, rfl, J, k, hne, ha, hz, hd, _, na, os, ag, _, q⟩
  refine ⟨.ref a, upd H1 a (EV cls d a), ?_, rfl, q a na⟩
  obtain ⟨hp, g, dr, tk, os'⟩ := s1
  obtain ⟨hp0, g0, dr0, tk0, os0⟩ := sI
  exact J.call' (ch := []) os (Un.laidN k hne na) (J.hok.laidN k na (ev_ok ha hz hd)) ag (fun b z => absurd z (by simp))
end

/-- list + list, each tracked or written -/
def rCatQ (K : PySem.W.Frag) : R2 := fun x y H Q => ∃ l b xs zs, x = .ref l ∧ y = .ref b ∧ SqL K H l xs ∧ SqL K H b zs ∧ xs.length + zs.length ≤ sizeLine ∧ ∀ p, H p = none → Q (.ref p) (upd H p (.lst (xs ++ zs)))
theorem op_catQ {X : Cx} : OpR X (binaryOp .Add) (rCatQ X.K) := by
  intro pins s σ H x y v u Q I rx ry h
  obtain ⟨l, b, xs, zs, rfl, rfl, hH, hB, hz, q⟩ := h
  cases rx
  cases ry
  obtain ⟨its, r, ⟨⟨cls, dd, data, sl⟩, n, ho, hc, _, hd⟩, z⟩ := I.list hH
  obtain ⟨its2, r2, ⟨⟨cls2, dd2, data2, sl2⟩, n2, ho2, hc2, _, hd2⟩, z2⟩ := I.list hB
  simp only at hc hd hc2 hd2
  subst hc hd hc2 hd2
  have l1 := r.length
  have l2 := r2.length
  have ea : its.toArray ++ its2.toArray = (its ++ its2).toArray := by simp
  refine concat_meets ⟨_, ho, rfl⟩ ⟨_, ho2, rfl⟩ noFill_list_add seq_list_add PySem.F.slot_list_add PySem.F.entry_list_add (PySem.F.args_list_add_2 _ _) (list_addW l b its.toArray its2.toArray n n2 dd dd2 sl sl2 (by rw [List.size_toArray, List.size_toArray]; omega)) ⟨ho, ho2, ?_⟩
  rw [ea]
  exact ⟨.ref _, _, I.lnew (t' := s.toks) (r.append r2) (by rw [List.length_append]; omega), rfl, q _ I.fresh⟩
theorem isVS {K : PySem.W.Frag} {mg : Str → Option Value} (er : Errs K mg) {H : Hp} {a : Addr} {d : Option Addr} {i : Nat} {Q : VK} (ha : H a = some (EV (.ref (eC K i)) d a)) (hd : ∀ dd, d = some dd → ∃ fs, H dd = some (.xd fs))
    (hi : i < 18) (q : Q (.bl true) H) : rIsV K [.ref a, .ref (eC K 17)] H Q :=
  ⟨a, _, d, _, _, _, rfl, ha, hd, er.xc i hi, fun u r => r, er.kitS i hi, q⟩
theorem xf_of {K : PySem.W.Frag} {C : Addr} (h : ExcC K C) : XfC K C := ⟨h.hg, h.hk, h.hs, h.hd⟩

/-! loops over enumerate, zip -/
section
variable {K : PySem.W.Frag} {σ : L2.St} {H : Hp} {ta : TA} {tb : TS} {g : TG} {D : Ends} {a b : Addr} {xs ys : List V}
def ForJ (J : It) (g : TG) (tb : TS) (D : Ends) (σ : L2.St) (H1 : Hp) : Prop := ∃ W : Nat → Nat → L2.St → Hp → Prop, (∃ m, W 0 m σ H1) ∧ ∀ i m σ H, W i m σ H →
  (J.stop i H ∧ D.nx σ H) ∨ (J.go i H ∧ ∃ N : L2.St → Hp → Prop, (∀ σ' H', N σ' H' → ∃ m', m' < m ∧ W (i + 1) m' σ' H') ∧ ∀ x H', J.yld i H x H' → g x σ H' fun σ2 H2 => tb { D with nx := N, ct := N, bk := D.nx } σ2 H2)
theorem tFor_enum : tFor (iEnum K ta) g tb D σ H = ta σ H fun us H1 => ∃ a xs, us = [.ref a] ∧ SqL K H1 a xs ∧ ForJ (Ite K a) g tb D σ H1 := rfl
theorem forE_in (Pv : Nat → L2.St → Hp → Prop) (h0 : Pv 0 σ H) (hl : ∀ i σ' H', i ≤ xs.length → Pv i σ' H' → SqL K H' a xs) (hd : ∀ σ H, Pv xs.length σ H → D.nx σ H)
    (hs : ∀ (i : Nat) x T σ H, xs[i]? = some x → Pv i σ H → H T = none → g (.ref T) σ (upd H T (.tup [.int (i : Nat), x])) fun σ2 H2 => tb { D with nx := Pv (i + 1), ct := Pv (i + 1), bk := D.nx } σ2 H2) : ForJ (Ite K a) g tb D σ H := by
  refine for_it walk_enum Pv h0 hl ?_ hd
  rintro i x σ H H' hi p ⟨T, x1, y1, rfl, hT, rfl, h1, h2⟩
  cases h1
  exact hs i y1 T σ H h2 p hT
end
end Bs

namespace Bs
open PySem PySem.Spec PyProof.Rows L2
open Evl (Ex)
/-! ### match over words -/
def PCase (X : Cx) (cs : List MatchCase) (t : Str → TS) : Prop := ∀ (first : Bool) (pins : List (Addr × Obj)) (s : Shared) (σ : L2.St) (H : Hp) (D : Ends) (z : Str) (v : Value), Inv X pins σ H s → RelV (.str z) v → t z D σ H →
  wpAny (model X.prog X.w) X.A (matchCases cs X.env v first) (SP X pins D) X.xe s
def tCase (w : Str) (a : TS) (b : Str → TS) : Str → TS := fun z D σ H => if z = w then a D σ H else b z D σ H
def tMatch (te : TE) (t : Str → TS) : TS := fun D σ H => te σ H fun x H1 => ∃ z, x = .str z ∧ t z D σ H1
section
variable {X : Cx} {body : List Stmt} {rest : List MatchCase} {tb : TS} {t : Str → TS} {w : Str} {j : Nat} {p pos : Pos} {e : Expr} {te : TE} {cs : List MatchCase}
theorem pc_nil : PCase X [] fun _ D σ H => D.nx σ H := by
  intro first pins s σ H D z v I r h
  exact wpAny_matchCases_nil ⟨σ, H, I, h⟩
theorem pc_any (hb : PSs X body tb) : PCase X [⟨.MatchAs none none pos, none, body⟩] fun _ => tb := by
  intro first pins s σ H D z v I r h
  refine wpAny_matchCases_cons (wpAny_matchPattern_Capture ?_)
  show wpAny _ _ (assignInOrder [] []) _ _ _
  exact wpAny_pure (hb.run pins s σ H D I h)
theorem pc_word (hb : PSs X body tb) (hr : PCase X rest t) : PCase X (⟨.MatchValue (.Constant (.str w) j p) pos, none, body⟩ :: rest) (tCase w tb t) := by
  intro first pins s σ H D z v I r h
  refine wpAny_matchCases_cons (wpAny_matchPattern_Value ?_)
  have one := (pe_str (X := X) (x := w) (j := j) (pos := p)).run pins s σ H (fun y H1 => y = .str w ∧ H1 = H) I ⟨rfl, rfl⟩
  refine wpAny_mono one ?_ (fun _ _ x => x)
  rintro u s1 ⟨y, H1, I1, r1, rfl, rfl⟩
  have two := op_eq pins s1 σ H1 (.str z) (.str w) v u (fun y H2 => y = .bl (decide (z = w)) ∧ H2 = H1) I1 r r1 ⟨rfl, by simp⟩
  refine wpAny_mono two ?_ (fun _ _ x => x)
  rintro c s2 ⟨y, H2, I2, r2, rfl, rfl⟩
  cases r2
  refine wpAny_truthy_bool ?_
  unfold tCase at h
  by_cases hz : z = w
  · rw [if_pos hz] at h
    rw [decide_eq_true hz]
    show wpAny _ _ (assignInOrder [] []) _ _ _
    exact wpAny_pure (hb.run pins s2 σ H2 D I2 h)
  · rw [if_neg hz] at h
    rw [decide_eq_false hz]
    exact hr false pins s2 σ H2 D z v I2 r h
theorem ps_match (he : PE X e te) (hc : PCase X cs t) : PS X (.Match e cs pos) (tMatch te t) := by
  constructor
  intro pins s σ H D I h
  apply wpAny_Match
  refine wpAny_mono (he.run pins s σ H _ I h) ?_ (fun _ _ x => x)
  rintro v s1 ⟨y, H1, I1, r, z, rfl, q⟩
  exact hc true pins s1 σ H1 D z v I1 r q
end
/-! ### defs of properties -/
def gA (K : PySem.W.Frag) (c f : Str) : Addr := match PySem.W.recIn K (He.ma K (He.ga K c) f) "property" with
  | some (.ref g :: _) => g
  | _ => 0
def fnA (K : PySem.W.Frag) (a : Addr) : He.FnW := match K.lookup a with
  | some ⟨_, _, .func fd, _⟩ => some (fd.name, fd.qualname, fd.params, fd.body, fd.scope, fd.globals, fd.closure, fd.builtins)
  | _ => none
def okA (K : PySem.W.Frag) (a : Addr) (q : Str) : Bool := PySem.W.keepIn K (.ref a) && (match K.lookup a with
  | some ⟨_, _, .func fd, _⟩ => PySem.W.codeIn K fd.code q && (He.dflB K fd.defaults [] && He.kwdB K fd.kwdefaults [])
  | _ => false)
theorem fun_at {K : PySem.W.Frag} {d : He.DefD} {a : Addr} (e : fnA K a = d.val) (c : okA K a d.qual = true) : ∃ fd, FunD K d.name d.qual d.params d.body d.scope [] [] a fd := by
  obtain ⟨kp, c2⟩ := Bool.and_eq_true_iff.mp c
  unfold fnA at e
  generalize hl : K.lookup a = lo at c2 e
  cases lo with
  | none => cases c2
  | some o =>
    obtain ⟨oc, od, dt, osl⟩ := o
    cases dt
    case func fd =>
      obtain ⟨n1, n2, n3, n4, n5, n6, n7, n8, n9, n10, n11, n12, n13, n14, n15⟩ := fd
      have e2 : (some (n1, n2, n3, n4, n5, n6, n7, n15) : He.FnW) = some (d.name, d.qual, d.params, .stmts d.body, d.scope, mainGlobals, [], builtinsNs) := e
      simp only [Option.some.injEq, Prod.mk.injEq] at e2
      obtain ⟨h1, h2, h3, h4, h5, h6, h7, h8⟩ := e2
      subst h1 h2 h3 h4 h5 h6 h7 h8
      have c3 : (PySem.W.codeIn K n13 d.qual && (He.dflB K n8 [] && He.kwdB K n9 [])) = true := c2
      simp only [Bool.and_eq_true] at c3
      exact ⟨_, ⟨oc, od, n8, n9, n10, n11, n12, n13, n14, osl, rfl, hl, c3.1, He.dflB_ok c3.2.1, He.kwdB_ok c3.2.2⟩, kp⟩
    all_goals cases c2
/-- class, name, def -/
abbrev PropD : Type := Str × Str × He.DefD
def propB (K : PySem.W.Frag) (q : PropD) : Bool :=
  decide (PySem.W.findIn K (.ref (He.ga K q.1)) q.2.1 = some (some (.ref (He.ma K (He.ga K q.1) q.2.1)))) && decide (PySem.W.specialIn K (.ref (He.ma K (He.ga K q.1) q.2.1)) "__get__" = some (some (.builtin "property.__get__"))) &&
  decide (PySem.W.takesIn K (.ref (He.ma K (He.ga K q.1) q.2.1)) = some true) && (match PySem.W.recIn K (He.ma K (He.ga K q.1) q.2.1) "property" with
    | some (.ref _ :: _) => true
    | _ => false) && okA K (gA K q.1 q.2.1) q.2.2.qual
theorem propB_ok {K : PySem.W.Frag} {q : PropD} (h : propB K q = true) : PropOf K (He.ga K q.1) q.2.1 (He.ma K (He.ga K q.1) q.2.1) (gA K q.1 q.2.1) ∧ okA K (gA K q.1 q.2.1) q.2.2.qual = true := by
  simp only [propB, Bool.and_eq_true, decide_eq_true_eq, and_assoc] at h
  obtain ⟨h1, h2, h3, h4, h5⟩ := h
  refine ⟨⟨h1, h2, h3, ?_⟩, h5⟩
  unfold gA
  generalize PySem.W.recIn K (He.ma K (He.ga K q.1) q.2.1) "property" = r at *
  cases r with
  | none => cases h4
  | some l =>
    cases l with
    | nil => cases h4
    | cons v l =>
      cases v
      case ref g => exact ⟨l, rfl⟩
      all_goals cases h4
/-! ### the head's facts, with properties too -/
def obP (n : Nat) (cs : List (PySem.W.Frag → Bool)) (ps : List PropD) (fa : List He.Fa) (fn : List He.DefD) (g : Addr → Option Obj) : Bool × He.AlD × List He.FnW :=
  ((cs.all fun c => c (kX n g)) && ps.all (propB (kX n g)), He.obsD fa fn (kX n g), ps.map fun q => fnA (kX n g) (gA (kX n g) q.1 q.2.1))
def valP (ps : List PropD) (fn : List He.DefD) : Bool × He.AlD × List He.FnW := (true, He.valD fn, ps.map fun q => q.2.2.val)
structure SaysP (cs : List (PySem.W.Frag → Bool)) (ps : List PropD) (fa : List He.Fa) (fn : List He.DefD) (K : PySem.W.Frag) : Prop where
  cs : (cs.all fun c => c K) = true
  pb : ps.all (propB K) = true
  pv : (ps.map fun q => fnA K (gA K q.1 q.2.1)) = ps.map fun q => q.2.2.val
  d : He.SaysD fa fn K
def hookP (n : Nat) (cs : List (PySem.W.Frag → Bool)) (ps : List PropD) (fa : List He.Fa) (fn : List He.DefD) : PySem.W.Hook where
  α := Bool × He.AlD × List He.FnW
  obs := fun s => obP n cs ps fa fn s.heap.get?
  val := fun _ => valP ps fn
  says := fun _ h => ∃ K : PySem.W.Frag, K.In h ∧ SaysP cs ps fa fn K
  of := fun _ _ e => by
    have e1 := congrArg (fun z : Bool × He.AlD × List He.FnW => z.1) e
    obtain ⟨a, b⟩ := Bool.and_eq_true_iff.mp e1
    exact ⟨_, He.frG_in, a, b, congrArg (fun z : Bool × He.AlD × List He.FnW => z.2.2) e, congrArg (fun z : Bool × He.AlD × List He.FnW => z.2.1) e⟩
  keeps := fun _ _ _ h k => by
    obtain ⟨K, hK, c⟩ := h
    exact ⟨K, PySem.W.Frag.In.keeps hK k, c⟩
theorem obP_eq {n : Nat} {cs : List (PySem.W.Frag → Bool)} {ps : List PropD} {fa : List He.Fa} {fn : List He.DefD} {g : Addr → Option Obj} {s : Shared} (h : ∀ a, g a = s.heap.get? a) : obP n cs ps fa fn g = (hookP n cs ps fa fn).obs s := by
  have e : g = s.heap.get? := funext h
  rw [e] <;> rfl
theorem SaysP.prop {cs : List (PySem.W.Frag → Bool)} {ps : List PropD} {fa : List He.Fa} {fn : List He.DefD} {K : PySem.W.Frag} (c : SaysP cs ps fa fn K) (i : Nat) {q : PropD} (h : ps[i]? = some q := by rfl) :
    PropOf K (He.ga K q.1) q.2.1 (He.ma K (He.ga K q.1) q.2.1) (gA K q.1 q.2.1) ∧ ∃ fd, FunD K q.2.2.name q.2.2.qual q.2.2.params q.2.2.body q.2.2.scope [] [] (gA K q.1 q.2.1) fd := by
  obtain ⟨p, o⟩ := propB_ok (List.all_eq_true.mp c.pb q (List.mem_of_getElem? h))
  have e2 : (ps.map fun q => fnA K (gA K q.1 q.2.1))[i]? = (ps.map fun q => q.2.2.val)[i]? := by rw [c.pv]
  rw [List.getElem?_map, List.getElem?_map, h] at e2
  exact ⟨p, fun_at (Option.some.inj e2) o⟩
/-- a def that minds no repr is one where none is under way -/
theorem gok_fn {P : Program} {w : World} {K : PySem.W.Frag} {mg : Str → Option Value} {base : Heap} {C : CXT} {k : Nat} {f : Addr} {fd : FuncData} {ps : List Str} {sp : Sp} (F : FnOk P w K mg base C k f fd ps sp) : GOk P w K mg base C k f fd ps sp :=
  ⟨F.len, fun A fr s H args us vs Q E r _ e b v q => F.run A fr s H args us vs Q E r e b v q⟩
/-- e.f in an except suite, e a kept exception -/
theorem pe_fldS {X : Cx} {a : Addr} {pn : List (Addr × Obj)} {e : Expr} {te : TE} {pos : Pos} {n : Str} (he : PE (X.suite a pn) e te) (hb : attributeBase e n X.env (eval e X.env) = eval e X.env := by rfl) :
    PE (X.suite a pn) (.Attribute e n pos) (tFldV X.K n te) := pe_fldV he hb
end Bs

namespace Bs
open PySem PySem.Spec PyProof.Rows L2
open Evl (Ex)
/-! ### methods of one of several classes -/
def tMethD (D : Addr → Prop) (m : Str) (sp : Sp) (E : XK) (ta : TE) (t : TA) : TE := fun σ H Q => ta σ H fun x H1 => ∃ a C dx fs, x = .ref a ∧ H1 a = some (.ins C dx fs) ∧ D C ∧ fs.lookup m = none ∧ t σ H1 fun vs H2 => sp (x :: vs) H2 Q E
def tMethDS (D : Addr → Prop) (m : Str) (sp : Sp) (E : L2.St → XK) (ta : TE) (t : TA) : TE := fun σ H Q => ta σ H fun x H1 => ∃ a C dx fs, x = .ref a ∧ H1 a = some (.ins C dx fs) ∧ D C ∧ fs.lookup m = none ∧ t σ H1 fun vs H2 => sp (x :: vs) H2 Q (E σ)
def tPropD (D : Addr → Prop) (sp : Sp) (E : XK) (ta : TE) : TE := fun σ H Q => ta σ H fun x H1 => ∃ a C dx fs, x = .ref a ∧ H1 a = some (.ins C dx fs) ∧ D C ∧ sp [x] H1 Q E
section
variable {X : Cx} {D : Addr → Prop} {CX : CXT} {k : Nat} {f : Addr} {fd : FuncData} {ps : List Str} {sp : Sp} {E : XK} {ES : L2.St → XK} {m : Str} {o e : Expr} {es : List Expr} {ta : TE} {t : TA} {pos apos : Pos}
theorem pe_methD {pl : Sem Bool} (he : PE X o ta) (cm : ∀ C, D C → Cls X.K C ∧ Meth X.K C m f) (F : FnOk X.prog X.w X.K X.mg X.base CX k f fd ps sp) (hr : Room k X.A) (hb : Binds X.K fd ps []) (hx : Passes CX X E) (ha : PA X (e :: es) t)
    (hst : starEach (e :: es) X.env = (false, eval e X.env) :: starEach es X.env := by rfl) (hpl : (backTo pos (starEach es X.env)).any (·.1) = false := by rfl)
    (ht : eval (.Call (.Attribute o m apos) (e :: es) [] pos) X.env = (do
      let ov ← eval o X.env
      standAt apos.atName
      let (f, first) ← holding [ov] (getMethod ov m pl)
      callWith pos f first (backTo pos (starEach (e :: es) X.env)) (backToKw pos (keywordEach [] X.env))) := by rfl) :
    PE X (.Call (.Attribute o m apos) (e :: es) [] pos) (tMethD D m sp E ta t) := by
  refine ⟨fun pins s σ H Q I h => ?_⟩
  refine PySem.W.methodCall_KW (pl := pl) (thn (he.run pins s σ H _ I h) fun u s1 ⟨x, H1, I1, rx, a, C, dx, fs, ex, ea, hC, l, q⟩ => ?_) ht
  subst ex
  obtain rfl : u = Value.ref a := rx
  obtain ⟨c, hm⟩ := cm C hC
  refine getmeth_ok I1 ea c hm l ?_
  refine PySem.W.callWith_K (first := [.ref a]) (h₀ := X.base) I.ok.mod.kin hm.kp (thn (ha.run pos pins s1 σ H1 _ I1 q) fun us s2 ⟨vs, H2, I2, r, q2⟩ => ⟨I2.kIn, ?_⟩) hst hpl
  exact run_fn (dvs := []) (ds := []) (us := .ref a :: us) (vs := .ref a :: vs) F hr hb .nil hx I2 (.cons rfl r) (by rw [List.append_nil]; exact q2)
theorem pe_meth0D {pl : Sem Bool} (he : PE X o ta) (cm : ∀ C, D C → Cls X.K C ∧ Meth X.K C m f) (F : FnOk X.prog X.w X.K X.mg X.base CX k f fd ps sp) (hr : Room k X.A) (hb : Binds X.K fd ps []) (hx : Passes CX X E)
    (ht : eval (.Call (.Attribute o m apos) [] [] pos) X.env = (do
      let ov ← eval o X.env
      standAt apos.atName
      let (f, first) ← holding [ov] (getMethod ov m pl)
      callWith pos f first (backTo pos (starEach [] X.env)) (backToKw pos (keywordEach [] X.env))) := by rfl) :
    PE X (.Call (.Attribute o m apos) [] [] pos) (tMethD D m sp E ta tNil) := by
  refine ⟨fun pins s σ H Q I h => ?_⟩
  refine PySem.W.methodCall_KW (pl := pl) (thn (he.run pins s σ H _ I h) fun u s1 ⟨x, H1, I1, rx, a, C, dx, fs, ex, ea, hC, l, q⟩ => ?_) ht
  subst ex
  obtain rfl : u = Value.ref a := rx
  obtain ⟨c, hm⟩ := cm C hC
  refine getmeth_ok I1 ea c hm l ?_
  exact PySem.W.callWith_K0 (first := [.ref a]) I1.kIn hm.kp (run_fn (dvs := []) (ds := []) (us := [.ref a]) (vs := [.ref a]) F hr hb .nil hx I1 (.cons rfl .nil) q)
/-- the callee runs, what it raises wished for at the caller's slots -/
theorem run_fS {pins : List (Addr × Obj)} {σ : L2.St} {H : Hp} {s : Shared} {Q : VK} {us : List Value} {vs : List V}
    (F : FnOk X.prog X.w X.K X.mg X.base CX k f fd ps sp) (hr : Room k X.A) (hb : Binds X.K fd ps []) (hx : PassesAt CX X σ (ES σ))
    (I : Inv X pins σ H s) (r : Vals vs us) (h : sp vs H Q (ES σ)) : wpAny (model X.prog X.w) X.A (call (.ref f) us) (EP X pins σ Q) X.xe s := by
  have len : us.length = ps.length := r.length ▸ F.len _ _ _ _ h
  have b := hb s us I.kIn (by rw [List.append_nil]; exact len)
  rw [List.append_nil] at b
  refine wpAny_call (codeAny_mono (F.run X.A X.stack s H ⟨us, []⟩ us vs Q (ES σ) hr I.env0 b r h) ?_)
  rintro (er | fl) s' z
  · exact hx pins H s er s' I z
  · cases fl with
    | ret u => exact I.after z
    | _ => exact z.elim
theorem pe_methDS {pl : Sem Bool} (he : PE X o ta) (cm : ∀ C, D C → Cls X.K C ∧ Meth X.K C m f) (F : FnOk X.prog X.w X.K X.mg X.base CX k f fd ps sp) (hr : Room k X.A) (hb : Binds X.K fd ps []) (hx : ∀ σ, PassesAt CX X σ (ES σ)) (ha : PA X (e :: es) t)
    (hst : starEach (e :: es) X.env = (false, eval e X.env) :: starEach es X.env := by rfl) (hpl : (backTo pos (starEach es X.env)).any (·.1) = false := by rfl)
    (ht : eval (.Call (.Attribute o m apos) (e :: es) [] pos) X.env = (do
      let ov ← eval o X.env
      standAt apos.atName
      let (f, first) ← holding [ov] (getMethod ov m pl)
      callWith pos f first (backTo pos (starEach (e :: es) X.env)) (backToKw pos (keywordEach [] X.env))) := by rfl) :
    PE X (.Call (.Attribute o m apos) (e :: es) [] pos) (tMethDS D m sp ES ta t) := by
  refine ⟨fun pins s σ H Q I h => ?_⟩
  refine PySem.W.methodCall_KW (pl := pl) (thn (he.run pins s σ H _ I h) fun u s1 ⟨x, H1, I1, rx, a, C, dx, fs, ex, ea, hC, l, q⟩ => ?_) ht
  subst ex
  obtain rfl : u = Value.ref a := rx
  obtain ⟨c, hm⟩ := cm C hC
  refine getmeth_ok I1 ea c hm l ?_
  refine PySem.W.callWith_K (first := [.ref a]) (h₀ := X.base) I.ok.mod.kin hm.kp (thn (ha.run pos pins s1 σ H1 _ I1 q) fun us s2 ⟨vs, H2, I2, r, q2⟩ => ⟨I2.kIn, ?_⟩) hst hpl
  exact run_fS (us := .ref a :: us) (vs := .ref a :: vs) F hr hb (hx σ) I2 (.cons rfl r) q2
theorem pe_meth0DS {pl : Sem Bool} (he : PE X o ta) (cm : ∀ C, D C → Cls X.K C ∧ Meth X.K C m f) (F : FnOk X.prog X.w X.K X.mg X.base CX k f fd ps sp) (hr : Room k X.A) (hb : Binds X.K fd ps []) (hx : ∀ σ, PassesAt CX X σ (ES σ))
    (ht : eval (.Call (.Attribute o m apos) [] [] pos) X.env = (do
      let ov ← eval o X.env
      standAt apos.atName
      let (f, first) ← holding [ov] (getMethod ov m pl)
      callWith pos f first (backTo pos (starEach [] X.env)) (backToKw pos (keywordEach [] X.env))) := by rfl) :
    PE X (.Call (.Attribute o m apos) [] [] pos) (tMethDS D m sp ES ta tNil) := by
  refine ⟨fun pins s σ H Q I h => ?_⟩
  refine PySem.W.methodCall_KW (pl := pl) (thn (he.run pins s σ H _ I h) fun u s1 ⟨x, H1, I1, rx, a, C, dx, fs, ex, ea, hC, l, q⟩ => ?_) ht
  subst ex
  obtain rfl : u = Value.ref a := rx
  obtain ⟨c, hm⟩ := cm C hC
  refine getmeth_ok I1 ea c hm l ?_
  exact PySem.W.callWith_K0 (first := [.ref a]) I1.kIn hm.kp (run_fS (us := [.ref a]) (vs := [.ref a]) F hr hb (hx σ) I1 (.cons rfl .nil) q)
theorem pe_propD {g : Addr} (he : PE X e ta) (cm : ∀ C, D C → Cls X.K C ∧ ∃ p, PropOf X.K C m p g) (F : FnOk X.prog X.w X.K X.mg X.base CX k g fd ps sp) (hr : Room (k + 1) X.A) (hb : Binds X.K fd ps []) (hx : Passes CX X.nox E)
    (hab : attributeBase e m X.env (eval e X.env) = eval e X.env) : PE X (.Attribute e m pos) (tPropD D sp E ta) := by
  refine ⟨fun pins s σ H Q I h => ?_⟩
  refine attr_of hab (thn (he.run pins s σ H _ I h) fun u s1 ⟨x, H1, I1, rx, a, C, dx, fs, ex, ea, hC, q⟩ => ?_)
  subst ex
  obtain rfl : u = Value.ref a := rx
  obtain ⟨c, p, hp⟩ := cm C hC
  exact getprop_ok I1 ea c hp F hr hb .nil hx q
end
/-! ### == by an own __eq__ -/
def rEqI (K : PySem.W.Frag) (D : Addr → Prop) (sp : Sp) (E : XK) : R2 := fun x y H Q => ∃ a C dx fs tb, x = .ref a ∧ H a = some (.ins C dx fs) ∧ D C ∧ TyX K H y tb ∧ PySem.W.notFirst K C tb = true ∧ sp [.ref a, y] H (fun v H' => ∃ b, v = .bl b ∧ Q (.bl b) H') E
theorem op_eqI {X : Cx} {D : Addr → Prop} {CX : CXT} {n : Nat} {f : Addr} {fd : FuncData} {ps : List Str} {sp : Sp} {E : XK} (F : FnOk X.prog X.w X.K X.mg X.base CX n f fd ps sp) (hr : Room n X.A) (hm : ∀ C, D C → Meth X.K C "__eq__" f) (hb : Binds X.K fd ps []) (hx : Passes CX X E) :
    OpR X (compareOp .Eq) (rEqI X.K D sp E) := by
  intro pins s σ H x y v u Q I rx ry h
  obtain ⟨a, C, dx, fs, tb, rfl, ha, hC, ty, hn, hq⟩ := h
  cases rx
  obtain ⟨P, Z, hP, _⟩ := kit_of I ry ty
  obtain ⟨mA, J, _⟩ := ins_get I.hok ha
  obtain ⟨od, J, _⟩ := J.look
  obtain ⟨m, hF⟩ := I.fr
  have M := hm C hC
  show wpAny (model X.prog X.w) X.A (richCompare .Eq _ u) (EP X pins σ Q) X.xe s
  refine PySem.W.cmp_K (op := .Eq) (tb := tb) hr.units0 hF I.ok.mod.kin J (Z.ty _ _ I.kIn hP) hn M.at_ M.fn ?_
  have r2 : Vals [V.ref a, y] [Value.ref a, u] := .cons rfl (.cons ry .nil)
  have hl := F.len _ _ _ _ hq
  refine wpAny_call (codeAny_mono (F.run X.A X.stack s H ⟨[.ref a, u], []⟩ [.ref a, u] [.ref a, y] _ E hr I.env0 (by
    have := hb s [.ref a, u] I.kIn (by simpa using hl)
    simpa using this) r2 hq) fun r s' z => ?_)
  cases r with
  | error e => exact hx pins σ H s e s' I z
  | ok fl =>
    cases fl with
    | ret w =>
      obtain ⟨z, H', I', rz, b, ez, q⟩ := I.after z
      subst ez
      cases rz
      exact ⟨.bl b, H', I', rfl, q⟩
    | next => exact False.elim z
    | brk => exact False.elim z
    | cont => exact False.elim z
end Bs

namespace Bs
open PySem PySem.Spec PyProof.Rows L2
open Evl (Ex)
/-! ### dicts of the module with text keys -/
def relEB (K : PySem.W.Frag) (e : DictEntry) (q : Str × He.Dv) : Bool := (match e.key with
  | .str x _ => decide (x = q.1)
  | _ => false) && He.relB (q.2.v K) e.val
def relLB (K : PySem.W.Frag) : List DictEntry → List (Str × He.Dv) → Bool
  | [], [] => true
  | e :: r, q :: t => relEB K e q && relLB K r t
  | _, _ => false
def vdB (K : PySem.W.Frag) (a : Addr) (kvs : List (Str × He.Dv)) : Bool := match K.lookup a with
  | some ⟨_, _, .dict es _, _⟩ => relLB K es.toList kvs
  | _ => false
def nsL (l : List DictEntry) (z : Str) : Option (Option Value) := match l.find? (·.key.isStr z) with
  | some e => some (some e.val)
  | none => if l.any (·.refKey) then none else some none
theorem relE_ok {K : PySem.W.Frag} {e : DictEntry} {q : Str × He.Dv} (h : relEB K e q = true) : (∃ t, e.key = .str q.1 t) ∧ RelV (q.2.v K) e.val := by
  unfold relEB at h
  obtain ⟨h1, h2⟩ := Bool.and_eq_true_iff.mp h
  refine ⟨?_, He.relB_ok h2⟩
  cases k : e.key with
  | str x t =>
    rw [k] at h1
    exact ⟨t, by rw [of_decide_eq_true h1]⟩
  | _ => rw [k] at h1; cases h1
theorem nsL_ok {K : PySem.W.Frag} (z : Str) : ∀ {l : List DictEntry} {kvs : List (Str × He.Dv)}, relLB K l kvs = true → ∃ r, nsL l z = some r ∧ RelO ((kvs.map fun q => (q.1, q.2.v K)).lookup z) r ∧ l.any (·.refKey) = false
  | [], [], _ => ⟨none, rfl, trivial, rfl⟩
  | [], _ :: _, h => by cases h
  | _ :: _, [], h => by cases h
  | e :: l, q :: kvs, h => by
    obtain ⟨h1, h2⟩ := Bool.and_eq_true_iff.mp (show (relEB K e q && relLB K l kvs) = true from h)
    obtain ⟨⟨t, ek⟩, rv⟩ := relE_ok h1
    obtain ⟨r, e1, e2, e3⟩ := nsL_ok z h2
    have nr : e.refKey = false := by unfold DictEntry.refKey; rw [ek]
    have isz : e.key.isStr z = (q.1 == z) := by rw [ek]; rfl
    have an : (e :: l).any (·.refKey) = false := by rw [List.any_cons, nr, e3]; rfl
    by_cases c : z = q.1
    · subst c
      refine ⟨some e.val, ?_, ?_, an⟩
      · unfold nsL
        rw [List.find?_cons_of_pos (by rw [isz]; exact beq_self_eq_true q.1)]
      · rw [List.map_cons, List.lookup_cons, beq_self_eq_true]
        exact rv
    · refine ⟨r, ?_, ?_, an⟩
      · have z1 : (q.1 == z) = false := beq_eq_false_iff_ne.mpr (Ne.symm c)
        unfold nsL at e1 ⊢
        rw [List.find?_cons_of_neg (by rw [isz, z1]; decide), an]
        rw [e3] at e1
        exact e1
      · have z1 : (z == q.1) = false := beq_eq_false_iff_ne.mpr c
        rw [List.map_cons, List.lookup_cons, z1]
        exact e2
/-- a dict of the module: what it holds at each text -/
def WordD (K : PySem.W.Frag) (w : World) (d : Addr) (kvs : List (Str × V)) : Prop := (∃ es n, KDict K w d es n) ∧ ∀ z, ∃ r, PySem.W.nsIn K d z = some r ∧ RelO (kvs.lookup z) r
theorem wordD_ok {K : PySem.W.Frag} {w : World} {d : Addr} {kvs : List (Str × He.Dv)} (h : ∃ es n, KDict K w d es n) (v : vdB K d kvs = true) : WordD K w d (kvs.map fun q => (q.1, q.2.v K)) := by
  refine ⟨h, fun z => ?_⟩
  obtain ⟨es, n, D⟩ := h
  unfold vdB at v
  rw [D.at_] at v
  obtain ⟨r, e1, e2, _⟩ := nsL_ok z v
  refine ⟨r, ?_, e2⟩
  unfold PySem.W.nsIn
  rw [D.at_]
  exact e1
section
variable {X : Cx} {d : Addr} {kvs : List (Str × V)}
theorem relO_some {o : Option V} {r : Option Value} (h : RelO o r) : r.isSome = o.isSome := by
  cases o <;> cases r <;> first | rfl | cases h
theorem op_in_wd (D : WordD X.K X.w d kvs) : OpR X (compareOp .In) (fun x y H Q => ∃ z, x = .str z ∧ y = .ref d ∧ Q (.bl (kvs.lookup z).isSome) H) := by
  obtain ⟨⟨es, n, kd⟩, hv⟩ := D
  intro pins s σ H x y v u Q I rx ry ⟨z, e1, e2, q⟩
  obtain ⟨r, n1, n2⟩ := hv z
  exact op_in_kd kd pins s σ H x y v u Q I rx ry ⟨z, r, e1, e2, n1, by rw [relO_some n2]; exact q⟩
theorem op_notIn_wd (D : WordD X.K X.w d kvs) : OpR X (compareOp .NotIn) (fun x y H Q => ∃ z, x = .str z ∧ y = .ref d ∧ Q (.bl (!(kvs.lookup z).isSome)) H) := by
  obtain ⟨⟨es, n, kd⟩, hv⟩ := D
  intro pins s σ H x y v u Q I rx ry ⟨z, e1, e2, q⟩
  obtain ⟨r, n1, n2⟩ := hv z
  exact op_notIn_kd kd pins s σ H x y v u Q I rx ry ⟨z, r, e1, e2, n1, by rw [relO_some n2]; exact q⟩
theorem op_item_wd (D : WordD X.K X.w d kvs) : OpR X getItem (fun x y H Q => ∃ z v0, x = .ref d ∧ y = .str z ∧ kvs.lookup z = some v0 ∧ Q v0 H) := by
  obtain ⟨⟨es, n, kd⟩, hv⟩ := D
  intro pins s σ H x y v u Q I rx ry ⟨z, v0, e1, e2, e3, q⟩
  obtain ⟨r, n1, n2⟩ := hv z
  rw [e3] at n2
  cases r with
  | none => cases n2
  | some u0 => exact op_item_kd kd pins s σ H x y v u Q I rx ry ⟨z, u0, v0, e1, e2, n1, n2, q⟩
theorem ix_wd (D : WordD X.K X.w d kvs) : IxR X (fun x y H Q => ∃ z v0, x = .ref d ∧ y = .str z ∧ kvs.lookup z = some v0 ∧ Q v0 H) := by
  intro value slice pins s σ H x y v u Q I rx ry h hs
  have h2 := op_item_wd D pins s σ H x y v u Q I rx ry h
  obtain ⟨⟨es, n, kd⟩, hv⟩ := D
  obtain ⟨z, v0, rfl, rfl, e3, q⟩ := h
  cases rx
  exact tail_any (kd_type kd I) PySem.F.slot_dict_getitem.lookup h2 hs
end
/-! ### the head's facts, with tables too -/
def obW (n : Nat) (cs : List (PySem.W.Frag → Bool)) (ps : List PropD) (fa : List He.Fa) (fn : List He.DefD) (ts : List He.Tab) (g : Addr → Option Obj) : (Bool × He.AlD × List He.FnW) × List (Option (List (Option (Str × Int)))) :=
  (obP n cs ps fa fn g, ts.map fun t => He.dicW (kX n g) (t.1 (kX n g)))
structure SaysW (cs : List (PySem.W.Frag → Bool)) (ps : List PropD) (fa : List He.Fa) (fn : List He.DefD) (ts : List He.Tab) (w : World) (K : PySem.W.Frag) : Prop where
  p : SaysP cs ps fa fn K
  t : (ts.map fun t => He.dicW K (t.1 K)) = ts.map fun t => some (He.keysIn w.params t.2)
def hookW (n : Nat) (cs : List (PySem.W.Frag → Bool)) (ps : List PropD) (fa : List He.Fa) (fn : List He.DefD) (ts : List He.Tab) : PySem.W.Hook where
  α := (Bool × He.AlD × List He.FnW) × List (Option (List (Option (Str × Int))))
  obs := fun s => obW n cs ps fa fn ts s.heap.get?
  val := fun w => (valP ps fn, ts.map fun t => some (He.keysIn w.params t.2))
  says := fun w h => ∃ K : PySem.W.Frag, K.In h ∧ SaysW cs ps fa fn ts w K
  of := fun w _ e => by
    have e0 := congrArg (fun z : (Bool × He.AlD × List He.FnW) × List (Option (List (Option (Str × Int)))) => z.1) e
    have e1 := congrArg (fun z : Bool × He.AlD × List He.FnW => z.1) e0
    obtain ⟨a, b⟩ := Bool.and_eq_true_iff.mp e1
    exact ⟨_, He.frG_in, ⟨a, b, congrArg (fun z : Bool × He.AlD × List He.FnW => z.2.2) e0, congrArg (fun z : Bool × He.AlD × List He.FnW => z.2.1) e0⟩,
      congrArg (fun z : (Bool × He.AlD × List He.FnW) × List (Option (List (Option (Str × Int)))) => z.2) e⟩
  keeps := fun _ _ _ h k => by
    obtain ⟨K, hK, c⟩ := h
    exact ⟨K, PySem.W.Frag.In.keeps hK k, c⟩
theorem obW_eq {n : Nat} {cs : List (PySem.W.Frag → Bool)} {ps : List PropD} {fa : List He.Fa} {fn : List He.DefD} {ts : List He.Tab} {g : Addr → Option Obj} {s : Shared} (h : ∀ a, g a = s.heap.get? a) : obW n cs ps fa fn ts g = (hookW n cs ps fa fn ts).obs s := by
  have e : g = s.heap.get? := funext h
  rw [e] <;> rfl
theorem SaysW.tab {cs : List (PySem.W.Frag → Bool)} {ps : List PropD} {fa : List He.Fa} {fn : List He.DefD} {ts : List He.Tab} {w : World} {K : PySem.W.Frag} (c : SaysW cs ps fa fn ts w K) (i : Nat) {t : He.Tab} (h : ts[i]? = some t := by rfl) : ∃ es n, KDict K w (t.1 K) es n := by
  have e2 : (ts.map fun t => He.dicW K (t.1 K))[i]? = (ts.map fun t => some (He.keysIn w.params t.2))[i]? := by rw [c.t]
  rw [List.getElem?_map, List.getElem?_map, h] at e2
  exact He.dicW_ok (Option.some.inj e2)
end Bs

namespace Bs
open PySem PySem.Spec PyProof.Rows L2
open Evl (Ex)
/-! ### defs with *v -/
def spStar (n : Nat) (sp : Sp) : Sp := fun vs H Q E => ∃ ws rest, vs = ws ++ rest ∧ ws.length = n ∧ rest.length ≤ sizeLine ∧ ∀ p, H p = Option.none → sp (ws ++ [V.ref p]) (upd H p (.tup rest)) Q E
section
variable {P : Program} {w : World} {K : PySem.W.Frag} {mg : Str → Option Value} {base : Heap} {x qual : Str} {params : Arguments} {body : List Stmt} {scope : Scope} {kws : List (Str × V)} {f : Addr} {fd : FuncData}
theorem fun_star {CX : CXT} {N ps : List Str} {pv : Str} {k : Nat} {sp : Sp} (F : FunD K x qual params body scope [] kws f fd) (S : FnScope N (ps ++ [pv]) scope) (hCX : StX.CXUp CX)
    (hb : ∀ (kV doc pm : Value) (an : Option Addr) (cdv ct : Value) (us rest : List Value), us.length = ps.length → bindArgs (PySem.W.fnOf x qual params body scope .none kV doc pm an cdv ct) ⟨us ++ rest, []⟩ = (newTuple rest >>= fun t => pure (ps.zip us ++ [(pv, t)])))
    (hbody : ∀ (cdv : Value) (A : Around) (fr : List Env) (s : Shared) (H : Hp) (vs : List V) (Q : VK) (E : XK), Room k (A.deeper (envOfC qual scope s.heap.objs.size f cdv)) → sp vs H Q E →
      ∃ t, PSs (cxOf CX P w K mg base N qual scope f cdv A fr s H E) body t ∧ t { nx := fun _ H' => Q .non H', rt := Q } (start N vs) H) : FnR P w K mg base CX (k + 1) f (spStar ps.length sp) := by
  obtain ⟨oc, od, dV, kV, doc, pm, an, cdv, ct, osl, rfl, lk, hcd, hD, _⟩ := F.ex
  rcases hD with ⟨_, rfl⟩ | ⟨e, _⟩
  · exact StX.fn_star (ps := ps) (pv := pv) (sp := sp) lk hcd S hCX (hb kV doc pm an cdv ct) fun A fr s H vs Q E hr h => hbody cdv A fr s H vs Q E hr h
  · exact absurd rfl e
end
section
variable {X : Cx} {D : Addr → Prop} {CX : CXT} {k : Nat} {f : Addr} {fd : FuncData} {ps : List Str} {sp : Sp} {E : XK} {ES : L2.St → XK} {m : Str} {o e : Expr} {es : List Expr} {ta : TE} {t : TA} {pos apos : Pos}
theorem pe_methDR {pl : Sem Bool} (he : PE X o ta) (cm : ∀ C, D C → Cls X.K C ∧ Meth X.K C m f) (F : FnR X.prog X.w X.K X.mg X.base CX k f sp) (hr : Room k X.A) (hx : Passes CX X E) (ha : PA X (e :: es) t)
    (hst : starEach (e :: es) X.env = (false, eval e X.env) :: starEach es X.env := by rfl) (hpl : (backTo pos (starEach es X.env)).any (·.1) = false := by rfl)
    (ht : eval (.Call (.Attribute o m apos) (e :: es) [] pos) X.env = (do
      let ov ← eval o X.env
      standAt apos.atName
      let (f, first) ← holding [ov] (getMethod ov m pl)
      callWith pos f first (backTo pos (starEach (e :: es) X.env)) (backToKw pos (keywordEach [] X.env))) := by rfl) :
    PE X (.Call (.Attribute o m apos) (e :: es) [] pos) (tMethD D m sp E ta t) := by
  refine ⟨fun pins s σ H Q I h => ?_⟩
  refine PySem.W.methodCall_KW (pl := pl) (thn (he.run pins s σ H _ I h) fun u s1 ⟨x, H1, I1, rx, a, C, dx, fs, ex, ea, hC, l, q⟩ => ?_) ht
  subst ex
  obtain rfl : u = Value.ref a := rx
  obtain ⟨c, hm⟩ := cm C hC
  refine getmeth_ok I1 ea c hm l ?_
  refine PySem.W.callWith_K (first := [.ref a]) (h₀ := X.base) I.ok.mod.kin hm.kp (thn (ha.run pos pins s1 σ H1 _ I1 q) fun us s2 ⟨vs, H2, I2, r, q2⟩ => ⟨I2.kIn, ?_⟩) hst hpl
  exact wpAny_call (run_fnR (us := .ref a :: us) (vs := .ref a :: vs) F hr hx I2 (.cons rfl r) q2)
theorem pe_meth0DR {pl : Sem Bool} (he : PE X o ta) (cm : ∀ C, D C → Cls X.K C ∧ Meth X.K C m f) (F : FnR X.prog X.w X.K X.mg X.base CX k f sp) (hr : Room k X.A) (hx : Passes CX X E)
    (ht : eval (.Call (.Attribute o m apos) [] [] pos) X.env = (do
      let ov ← eval o X.env
      standAt apos.atName
      let (f, first) ← holding [ov] (getMethod ov m pl)
      callWith pos f first (backTo pos (starEach [] X.env)) (backToKw pos (keywordEach [] X.env))) := by rfl) :
    PE X (.Call (.Attribute o m apos) [] [] pos) (tMethD D m sp E ta tNil) := by
  refine ⟨fun pins s σ H Q I h => ?_⟩
  refine PySem.W.methodCall_KW (pl := pl) (thn (he.run pins s σ H _ I h) fun u s1 ⟨x, H1, I1, rx, a, C, dx, fs, ex, ea, hC, l, q⟩ => ?_) ht
  subst ex
  obtain rfl : u = Value.ref a := rx
  obtain ⟨c, hm⟩ := cm C hC
  refine getmeth_ok I1 ea c hm l ?_
  exact PySem.W.callWith_K0 (first := [.ref a]) I1.kIn hm.kp (wpAny_call (run_fnR (us := [.ref a]) (vs := [.ref a]) F hr hx I1 (.cons rfl .nil) q))
theorem run_fRS {pins : List (Addr × Obj)} {σ : L2.St} {H : Hp} {s : Shared} {Q : VK} {us : List Value} {vs : List V}
    (F : FnR X.prog X.w X.K X.mg X.base CX k f sp) (hr : Room k X.A) (hx : PassesAt CX X σ (ES σ))
    (I : Inv X pins σ H s) (r : Vals vs us) (h : sp vs H Q (ES σ)) : wpAny (model X.prog X.w) X.A (call (.ref f) us) (EP X pins σ Q) X.xe s := by
  refine wpAny_call (codeAny_mono (F X.A X.stack s H us vs Q (ES σ) hr I.env0 r h) ?_)
  rintro (er | fl) s' z
  · exact hx pins H s er s' I z
  · cases fl with
    | ret u => exact I.after z
    | _ => exact z.elim
theorem pe_methDRS {pl : Sem Bool} (he : PE X o ta) (cm : ∀ C, D C → Cls X.K C ∧ Meth X.K C m f) (F : FnR X.prog X.w X.K X.mg X.base CX k f sp) (hr : Room k X.A) (hx : ∀ σ, PassesAt CX X σ (ES σ)) (ha : PA X (e :: es) t)
    (hst : starEach (e :: es) X.env = (false, eval e X.env) :: starEach es X.env := by rfl) (hpl : (backTo pos (starEach es X.env)).any (·.1) = false := by rfl)
    (ht : eval (.Call (.Attribute o m apos) (e :: es) [] pos) X.env = (do
      let ov ← eval o X.env
      standAt apos.atName
      let (f, first) ← holding [ov] (getMethod ov m pl)
      callWith pos f first (backTo pos (starEach (e :: es) X.env)) (backToKw pos (keywordEach [] X.env))) := by rfl) :
    PE X (.Call (.Attribute o m apos) (e :: es) [] pos) (tMethDS D m sp ES ta t) := by
  refine ⟨fun pins s σ H Q I h => ?_⟩
  refine PySem.W.methodCall_KW (pl := pl) (thn (he.run pins s σ H _ I h) fun u s1 ⟨x, H1, I1, rx, a, C, dx, fs, ex, ea, hC, l, q⟩ => ?_) ht
  subst ex
  obtain rfl : u = Value.ref a := rx
  obtain ⟨c, hm⟩ := cm C hC
  refine getmeth_ok I1 ea c hm l ?_
  refine PySem.W.callWith_K (first := [.ref a]) (h₀ := X.base) I.ok.mod.kin hm.kp (thn (ha.run pos pins s1 σ H1 _ I1 q) fun us s2 ⟨vs, H2, I2, r, q2⟩ => ⟨I2.kIn, ?_⟩) hst hpl
  exact run_fRS (us := .ref a :: us) (vs := .ref a :: vs) F hr (hx σ) I2 (.cons rfl r) q2
theorem pe_meth0DRS {pl : Sem Bool} (he : PE X o ta) (cm : ∀ C, D C → Cls X.K C ∧ Meth X.K C m f) (F : FnR X.prog X.w X.K X.mg X.base CX k f sp) (hr : Room k X.A) (hx : ∀ σ, PassesAt CX X σ (ES σ))
    (ht : eval (.Call (.Attribute o m apos) [] [] pos) X.env = (do
      let ov ← eval o X.env
      standAt apos.atName
      let (f, first) ← holding [ov] (getMethod ov m pl)
      callWith pos f first (backTo pos (starEach [] X.env)) (backToKw pos (keywordEach [] X.env))) := by rfl) :
    PE X (.Call (.Attribute o m apos) [] [] pos) (tMethDS D m sp ES ta tNil) := by
  refine ⟨fun pins s σ H Q I h => ?_⟩
  refine PySem.W.methodCall_KW (pl := pl) (thn (he.run pins s σ H _ I h) fun u s1 ⟨x, H1, I1, rx, a, C, dx, fs, ex, ea, hC, l, q⟩ => ?_) ht
  subst ex
  obtain rfl : u = Value.ref a := rx
  obtain ⟨c, hm⟩ := cm C hC
  refine getmeth_ok I1 ea c hm l ?_
  exact PySem.W.callWith_K0 (first := [.ref a]) I1.kIn hm.kp (run_fRS (us := [.ref a]) (vs := [.ref a]) F hr (hx σ) I1 (.cons rfl .nil) q)
end
/-! ### enumerate of a tuple -/
theorem enum_newB {v : Value} {o : Obj} {G : Heap → Prop} (B : Begins v o G) : Meets (Builtin.«enumerate.__new__» ⟨[.type "enumerate", v], []⟩) (fun _ R s => G s.heap ∧
    R (.ok (.ret (.ref (s.heap.push o).objs.size))) { s with heap := (s.heap.push o).push { cls := .type "enumerate", data := .fields #[.none, .bool false, .ref s.heap.objs.size, rawInt 0, .none, .none] } }) :=
  .of_wp fun prog w A R ⟨hp, g, d, tk, os⟩ ⟨h1, h⟩ => by
    have sb := sub_enumerate
    have qi : ∀ {A' : Around} {E : Value → Shared → Prop} {Q : Value → Shared → Prop}, Q (.ref hp.objs.size) ⟨hp.push o, g, d, tk, os⟩ → wpAny (model prog w) A' (pyIter v) Q E ⟨hp, g, d, tk, os⟩ := fun q => B.iter prog w _ _ ⟨hp, g, d, tk, os⟩ _ h1 q
    wp_walk using qi
    refine wpAny_stack_any fun st => wpAny_pure ?_
    split
    · rename_i c _ _ _ _ _
      cases (c == Value.type "enumerate") <;> (wp_walk using qi; exact ⟨_, rfl, h⟩)
    · wp_walk using qi; exact ⟨_, rfl, h⟩
theorem enum_beginsB {prog : Program} {w : World} {A : Around} {E : Value → Shared → Prop} {s : Shared} {v : Value} {o : Obj} {G : Heap → Prop} {Q : Value → Shared → Prop} (B : Begins v o G) (h1 : G s.heap)
    (h : ∀ h', IsEnum h' (s.heap.objs.size + 1) s.heap.objs.size 0 .none → h'.get? s.heap.objs.size = some o → h'.objs.size = s.heap.objs.size + 2 → (∀ b o, s.heap.get? b = some o → h'.get? b = some o) → Q (.ref (s.heap.objs.size + 1)) { s with heap := h' }) :
    wpAny (model prog w) A (call (.type "enumerate") [v]) Q E s := by
  refine callType_new F.called_enumerate (by decide) (F.typeCall_enumerate_1 _) (F.newCall_enumerate_1 _) (fun ob => F.args_object_init_2 ob _) F.entry_enumerate_new (enum_newB B) ⟨h1, ?_⟩
  have hz : (s.heap.push o).objs.size = s.heap.objs.size + 1 := Heap.size_push ..
  show _ ∧ _
  rw [hz]
  have he := Heap.get?_push_size (s.heap.push o) (o := { cls := .type "enumerate", data := .fields #[.none, .bool false, .ref s.heap.objs.size, rawInt 0, .none, .none] }) rfl
  rw [hz] at he
  exact ⟨⟨_, he, rfl⟩, h _ he (Heap.get?_push_of_some _ (Heap.get?_push_size _ B.free)) (by rw [Heap.size_push, hz]) fun b o x => Heap.get?_push_of_some _ (Heap.get?_push_of_some _ x)⟩
def IteT (K : PySem.W.Frag) (a : Addr) (m : Nat) : It :=
  ⟨fun i H => ∃ (xs : List V) (x : V), SqT K H a xs ∧ xs[i]? = some x ∧ xs.length = m, fun i H v H' => ∃ T x, v = .ref T ∧ H T = none ∧ H' = upd H T (.tup [.int (i : Nat), x]) ∧ ∀ xs, SqT K H a xs → xs[i]? = some x, fun i H => ∃ xs : List V, SqT K H a xs ∧ xs.length ≤ i ∧ xs.length = m⟩
theorem turn_enumT {P : Program} {w : World} {K : PySem.W.Frag} {elts : List Expr} {kk : Nat} {tpos : Pos} (a e it : Addr) (m : Nat) :
    Turn P w K (.Tuple elts kk tpos) (IteT K a m) [e, it] e (fun i h => (∃ old, IsEnum h e it ((i : Nat) : Int) old) ∧ h.IsTupleIter it a i ∧ e ≠ it ∧ i ≤ m) where
  mem := by simp
  obj := fun i h ⟨⟨old, he⟩, ⟨o, ho, hc, hd⟩, _⟩ b hb => by
    rcases (by simpa using hb : b = e ∨ b = it) with z | z
    · rw [z]; exact ⟨_, he, fun v q => nomatch q⟩
    · rw [z]; exact ⟨o, ho, fun v q => by rw [hd] at q; cases q⟩
  keep := fun i h h' ⟨⟨old, he⟩, hi, hne, hm⟩ k => ⟨⟨old, k e (by simp) _ he⟩, hi.at fun o q => k it (by simp) o q, hne, hm⟩
  item := by
    intro X hP hw hK hc i pins s σ H E I hf ⟨⟨old, he⟩, hit, hne, hm⟩ ⟨xs, x, hq, hx, hxm⟩
    subst hP hw hK
    obtain ⟨its, rv, p, hz⟩ := I.tuple hq
    obtain ⟨u, hu, ru⟩ := rv.get hx
    have p2 : s.heap.IsTuple a its.toArray := p
    have hl := rv.length
    have hel : e < s.heap.objs.size := Heap.lt_size he
    have hil : it < s.heap.objs.size := by obtain ⟨_, q, _⟩ := hit; exact Heap.lt_size q
    have nae : a ≠ it := fun z => by
      obtain ⟨o1, q1, c1, _⟩ := hit
      obtain ⟨o2, q2, c2, _⟩ := p2
      rw [z, q1] at q2
      cases q2
      rw [c1] at c2
      exact absurd (Value.type.inj c2) (by decide)
    have na : a ≠ e := fun z => by
      obtain ⟨o2, q2, c2, _⟩ := p2
      rw [z, he] at q2
      cases q2
      exact absurd (Value.type.inj c2) (by decide)
    have im : i < its.toArray.size := by
      have := (List.getElem?_eq_some_iff.mp hx).1
      simp; omega
    refine wpAny_pyNext_enum_itemD (Draws.tuple (A := X.A.in1) (I.ok.hd hc) it a nae its.toArray) he ⟨hit, p2⟩ im hne (by simp [hne, Ne.symm na]) fun u1 h' tk hu1 ho hst hT hsz hk => ?_
    obtain rfl : u1 = u := by
      have : its.toArray[i]? = some u := by simpa using hu
      rw [hu1] at this
      exact Option.some.inj this
    refine ⟨_, rfl, wpAny_letOwnedTupleGo_enum (s := { s with heap := h', toks := tk + 1 }) ho fun h'' he' sb => ?_⟩
    have hT2 : h''.get? s.heap.objs.size = some { cls := .type "tuple", data := .seq #[.int i tk, u1] } := (sb.2 _ (Nat.ne_of_gt hel)).trans hT
    have new : ObjOk X.prog X.w (upd H s.heap.objs.size (.tup [.int (i : Nat), x])) h'' s.heap.objs.size (.tup [.int (i : Nat), x]) :=
      ⟨by show 2 ≤ sizeLine; decide, [.int i tk, u1], .cons ⟨_, rfl⟩ (.cons ru .nil), ⟨_, hT2, rfl, _, rfl⟩⟩
    have I1 : Inv X pins σ (upd H s.heap.objs.size (.tup [.int (i : Nat), x])) { s with heap := h'', toks := tk + 1 } :=
      I.turnedNew (ch := [e, it]) (fun b ob hb q => (sb.2 b (fun z => hb (by simp [z]))).trans (hk b ob (fun z => hb (by simp [z])) (fun z => hb (by simp [z])) q)) hf (Nat.le_refl _) new
    refine ⟨.ref s.heap.objs.size, _, I1, rfl, ⟨_, x, rfl, I.hok.fresh (Nat.le_refl _), rfl, fun ys hy => by rw [I.tuple_inj hy hq]; exact hx⟩, ⟨⟨u1, ?_⟩, hst.1.at fun o q => (sb.2 it (Ne.symm hne)).trans q, hne, ?_⟩, fun b hb => ?_⟩
    · rw [show ((i + 1 : Nat) : Int) = (i : Int) + 1 by omega]; exact he'
    · have := (List.getElem?_eq_some_iff.mp hx).1
      omega
    · have hb' : b < s.heap.objs.size := by
        rcases (by simpa using hb : b = e ∨ b = it) with z | z
        · rw [z]; exact hel
        · rw [z]; exact hil
      rw [upd_ne (Nat.ne_of_lt hb')]
      exact (hf b hb).1
  done := by
    intro X hP hw hK hc i pins s σ H E I hf ⟨⟨old, he⟩, hit, hne, hm⟩ ⟨xs, hq, hx, hxm⟩
    subst hP hw hK
    obtain ⟨its, rv, p, hz⟩ := I.tuple hq
    have p2 : s.heap.IsTuple a its.toArray := p
    obtain ⟨f0, f1, f2, f3, f4, f5⟩ := hf it (by simp)
    have hl := rv.length
    have nae : a ≠ it := fun z => by
      obtain ⟨o1, q1, c1, _⟩ := hit
      obtain ⟨o2, q2, c2, _⟩ := p2
      rw [z, q1] at q2
      cases q2
      rw [c1] at c2
      exact absurd (Value.type.inj c2) (by decide)
    have e1 : i = its.toArray.size := by simp; omega
    refine wpAny_pyNext_enum_endD (Draws.tuple (A := X.A.in1) (I.ok.hd hc) it a nae its.toArray) he ⟨e1 ▸ hit, p2⟩ fun h' eb => ⟨rfl, I.turned (t' := s.toks) (fun b o hb q => eb b o hb q) f0 f1 f3 f4 f5⟩
  self := fun A i s Q E ⟨⟨_, he⟩, _⟩ h => wpAny_pyIter_enum he h
def iEnumT (K : PySem.W.Frag) (ta : TA) : TI := fun σ H R => ta σ H fun vs H1 => ∃ a xs, vs = [.ref a] ∧ SqT K H1 a xs ∧ R (IteT K a xs.length) H1
theorem pi_enumT {X : Cx} {e : Expr} {ta : TA} {p pos tpos : Pos} {elts : List Expr} {kk : Nat} (hg : Gl X "enumerate") (hm : X.mg "enumerate" = none) (ha : PA X [e] ta) (hs : starEach [e] X.env = [(false, eval e X.env)] := by rfl) :
    PI X (.Tuple elts kk tpos) (.Call (.Name "enumerate" p) [e] [] pos) (iEnumT X.K ta) := by
  refine ⟨fun pins s σ H R I h => Call_ (ld_blt I hg hm boot_enumerate (PyProof.Rows.callWith_type1 (thn (ha.run pos pins s σ H _ I h) fun us s1 ⟨vs, H1, I1, r1, a, xs, ex, hq, q⟩ => ?_) hs rfl))⟩
  subst ex
  cases r1 with
  | cons r rr =>
    cases rr
    cases r
    obtain ⟨its, rv, p', hz⟩ := I1.tuple hq
    refine enum_beginsB (begins_tuple a its.toArray) p' fun h' he hit hsz hk => wpAny_pyIter_enum he ?_
    have I2 : Inv X pins σ H1 { s1 with heap := h' } := I1.kept (t' := s1.toks) hk
    refine ⟨s1.heap.objs.size + 1, [s1.heap.objs.size + 1, s1.heap.objs.size], _, _, H1, rfl, I2, turn_enumT a (s1.heap.objs.size + 1) s1.heap.objs.size xs.length, ⟨⟨.none, he⟩, ⟨_, hit, rfl, rfl⟩, Nat.succ_ne_self _, Nat.zero_le _⟩, fun b hb => ?_, q⟩
    have hle : s1.heap.objs.size ≤ b := by
      rcases (by simpa using hb : b = s1.heap.objs.size + 1 ∨ b = s1.heap.objs.size) with z | z
      · rw [z]; exact Nat.le_add_right _ _
      · rw [z]; exact Nat.le_refl _
    exact I1.fpOk hle (I1.hok.fresh hle)
section
variable {K : PySem.W.Frag} {σ : L2.St} {H : Hp} {ta : TA} {tb : TS} {g : TG} {D : Ends} {a : Addr} {xs : List V}
theorem tFor_enumT : tFor (iEnumT K ta) g tb D σ H = ta σ H fun us H1 => ∃ a xs, us = [.ref a] ∧ SqT K H1 a xs ∧ ForJ (IteT K a xs.length) g tb D σ H1 := rfl
theorem walk_enumT : Walk (IteT K a xs.length) xs.length (fun H => SqT K H a xs) (YPair (fun i => some (.int (i : Nat))) (fun i => xs[i]?)) := by
  refine ⟨fun i _ hi q => ⟨xs, xs[i], q, by simp [hi], rfl⟩, fun _ q => ⟨xs, q, Nat.le_refl _, rfl⟩, fun i H v H' _ q ⟨T, x, h1, h2, h3, h4⟩ => ⟨T, .int (i : Nat), x, h1, h2, h3, rfl, h4 xs q⟩⟩
theorem forET_in (Pv : Nat → L2.St → Hp → Prop) (h0 : Pv 0 σ H) (hl : ∀ i σ' H', i ≤ xs.length → Pv i σ' H' → SqT K H' a xs) (hd : ∀ σ H, Pv xs.length σ H → D.nx σ H)
    (hs : ∀ (i : Nat) x T σ H, xs[i]? = some x → Pv i σ H → H T = none → g (.ref T) σ (upd H T (.tup [.int (i : Nat), x])) fun σ2 H2 => tb { D with nx := Pv (i + 1), ct := Pv (i + 1), bk := D.nx } σ2 H2) : ForJ (IteT K a xs.length) g tb D σ H := by
  refine for_it walk_enumT Pv h0 hl ?_ hd
  rintro i x σ H H' hi p ⟨T, x1, y1, rfl, hT, rfl, h1, h2⟩
  cases h1
  exact hs i y1 T σ H h2 p hT
end
/-! ### repr and str of data -/
def rReprW (K : PySem.W.Frag) : List V → Hp → VK → Prop := fun xs H Q => ∃ v d, xs = [v] ∧ Df K H v d ∧ Good 20 16000000 d ∧ Q (.str (PyData.shown d)) H
theorem call_repr_W {X : Cx} {k : Nat} (hr : Room k X.A) (hc : Clean X.A) (sy : (X.K.lookup sysModules).isSome = true) : CallR X (.builtin "repr") (rReprW X.K) := by
  intro pins s σ H xs us Q I r ⟨v, d, ex, hd, ⟨g1, g2, g3⟩, q⟩
  subst ex
  have hz : d.shown.length ≤ sizeLine := by rw [sizeLine_eq]; omega
  cases r with
  | cons r0 r1 =>
  cases r1
  obtain ⟨as, rd, na⟩ := df_reads I sy _ _ _ hd r0
  have hu := hr.units
  have big : ∀ {a : Addr}, RelV (.ref a) (.ref a) → Reads s.heap (.ref a) d as → wpAny (model X.prog X.w) X.A (call (.builtin "repr") [.ref a]) (EP X pins σ Q) X.xe s := fun {a} _ rd =>
    repr_of_reads' rd g1 (fun _ => na) hc (by omega) (fun _ _ z => z) (fun h' u tk kk => ⟨.str _, H, I.kept kk, ⟨_, rfl⟩, q⟩) hz
  cases hd with
  | lst _ _ => cases r0; exact big rfl rd
  | tup _ _ => cases r0; exact big rfl rd
  | dct _ => cases r0; exact big rfl rd
  | dp fl hd =>
    cases hd with
    | non => cases r0; exact P.repr_of_none ⟨.str _, H, I.tok _, ⟨_, rfl⟩, q⟩
    | bl b =>
      cases r0
      refine P.repr_of_bool ⟨.str _, H, I.tok _, ⟨_, rfl⟩, ?_⟩
      cases b <;> exact q
    | int i =>
      obtain ⟨t, rfl⟩ := r0
      exact P.repr_of_int (by simpa only [PyData.showable, decide_eq_true_eq] using g1) ⟨.str _, H, I.tok _, ⟨_, rfl⟩, q⟩
    | str x =>
      obtain ⟨t, rfl⟩ := r0
      exact P.repr_of_str ⟨.str _, H, I.tok _, ⟨_, rfl⟩, q⟩ hz
    | lst _ _ => cases fl
    | tup _ _ => cases fl
def rStr2 : List V → Hp → VK → Prop := fun xs H Q => ∃ v, xs = [v] ∧ ((∃ i : Int, v = .int i ∧ i.natAbs.log2 < 1900 ∧ Q (.str (toString i)) H) ∨ ∃ a, v = .str a ∧ Q (.str a) H)
theorem call_str2 {X : Cx} : CallR X (.type "str") rStr2 := by
  intro pins s σ H xs us Q I r ⟨v, ex, h⟩
  subst ex
  rcases h with ⟨i, rfl, l, q⟩ | ⟨a, rfl, q⟩
  · exact call_str_int pins s σ H _ us Q I r ⟨i, rfl, by omega, q⟩
  · exact SkE.call_str_str pins s σ H _ us Q I r ⟨a, rfl, q⟩
/-! ### the types of data -/
def tyD : PyData → String
  | .none => "NoneType"
  | .bool _ => "bool"
  | .int _ => "int"
  | .str _ => "str"
  | .list _ => "list"
  | .tuple _ => "tuple"
  | _ => "dict"
theorem sqL_ty {K : PySem.W.Frag} {H : Hp} {a : Addr} {xs : List V} (h : SqL K H a xs) : TyX K H (.ref a) (.type "list") := by
  rcases h with (h | ⟨o, h⟩) | ⟨o, its, n, hk, hc, _⟩
  · exact .base (.lst h)
  · exact .base (.frz h)
  · exact .kList hk hc
theorem sqT_ty {K : PySem.W.Frag} {H : Hp} {a : Addr} {xs : List V} (h : SqT K H a xs) : TyX K H (.ref a) (.type "tuple") := by
  rcases h with (h | ⟨o, h⟩) | ⟨o, its, n, hk, hc, _⟩
  · exact .base (.tup h)
  · exact .fTuple h
  · exact .kTuple hk hc
theorem dp_ty {K : PySem.W.Frag} {H : Hp} {v : V} {d : PyData} (h : Dp K H v d) : TyX K H v (.type (tyD d)) := by
  cases h with
  | non => exact .base .non
  | bl b => exact .base (.bl b)
  | int i => exact .base (.int i)
  | str x => exact .base (.str x)
  | lst h _ => exact sqL_ty h
  | tup h _ => exact sqT_ty h
/-! ### inside a comprehension: the fragment said outright -/
def rJoin (K : PySem.W.Frag) : V → List V → Hp → VK → Prop := fun x xs H Q => ∃ a p, ∃ ys : List Str, x = .str a ∧ xs = [.ref p] ∧ (SqL K H p (ys.map V.str) ∨ SqT K H p (ys.map V.str)) ∧ (ys.map (·.length)).sum + ys.length * a.length ≤ 16777216 ∧ Q (.str (Txt.join a ys)) H
theorem pe_joinK {X : Cx} {o e : Expr} {to te : TE} {apos pos : Pos} (K : PySem.W.Frag) (hK : X.K = K) (ho : PE X o to) (he : PE X e te) (h1 : starEach [e] X.env = [(false, eval e X.env)] := by rfl) (h2 : attributeBase o (Str.ofString "join") X.env (eval o X.env) = eval o X.env := by rfl) (h3 : (apos.endLine == pos.line) = true := by rfl) :
    PE X ((o.Attribute (Str.ofString "join") apos).Call [e] [] pos) (tM1 (rJoin K) to te) := by
  subst hK
  exact pe_join ho he h1 h2 h3
theorem pi_tupK {X : Cx} {tg l : Expr} {tl : TE} (K : PySem.W.Frag) (hK : X.K = K) (hl : PE X l tl) : PI X tg l (iTup K tl) := by
  subst hK
  exact pi_tup hl
theorem pi_listK {X : Cx} {tg l : Expr} {tl : TE} (K : PySem.W.Frag) (hK : X.K = K) (hl : PE X l tl) : PI X tg l (iList K tl) := by
  subst hK
  exact pi_list hl
/-! ### x in a tuple of data -/
def rInT (K : PySem.W.Frag) : R2 := fun x y H Q => ∃ d ds, Dp K H x d ∧ Dp K H y (.tuple ds) ∧ fine 20 d = true ∧ fine 20 (.tuple ds) = true ∧ Q (.bl (ds.any fun z => z.eqv d)) H
theorem op_inT {X : Cx} {k : Nat} (hr : Room k X.A) : OpR X (compareOp .In) (rInT X.K) := by
  intro pins s σ H x y v u Q I rx ry ⟨d, ds, h1, h2, f1, f2, q⟩
  obtain ⟨as, ra⟩ := Dp.reads I _ _ _ h2 ry
  obtain ⟨bs, rb⟩ := Dp.reads I _ _ _ h1 rx
  have hu := hr.un
  exact PySem.SeqAt.in_tuple_reads ra rb (fine_can (.tuple ds) 20 f2) (fine_can d 20 f1) (room_in_shaped (fine_shaped f1) (by omega)) ⟨.bl _, H, I, rfl, q⟩
end Bs

namespace Bs
open PySem PySem.Spec PyProof.Rows L2 PySem.NumText
/-! ### texts and their signs -/
theorem str_ext {a b : Str} (h : a.cps.toList = b.cps.toList) : a = b := by
  cases a with
  | mk x =>
  cases b with
  | mk y =>
  congr 1
  exact Array.toList_inj.mp h
theorem cps_app (a b : Str) : (a ++ b).cps.toList = a.cps.toList ++ b.cps.toList := by
  show (a.cps ++ b.cps).toList = _
  simp
theorem len_cps (a : Str) : a.length = a.cps.toList.length := rfl
theorem ofBytes_ascii : ∀ l : List Char, (∀ c ∈ l, c.toNat < 128) → cpsOfBytes 0 0 (l.flatMap String.utf8EncodeChar) = l.map Char.toNat
  | [], _ => rfl
  | c :: l, h => by
    have hc : c.toNat < 128 := h c (List.mem_cons_self ..)
    have e : String.utf8EncodeChar c = [c.val.toUInt8] := by
      unfold String.utf8EncodeChar
      rw [if_pos (by show c.val.toNat ≤ 127; have : c.val.toNat = c.toNat := rfl; omega)]
      rfl
    have e2 : c.val.toUInt8.toNat = c.toNat := by
      show c.val.toNat % 2 ^ 8 = c.toNat
      have : c.val.toNat = c.toNat := rfl
      omega
    rw [List.flatMap_cons, e, List.map_cons]
    show (if c.val.toUInt8.toNat < 128 then c.val.toUInt8.toNat :: cpsOfBytes 0 0 (l.flatMap String.utf8EncodeChar) else _) = _
    rw [if_pos (by omega), e2, ofBytes_ascii l fun d hd => h d (List.mem_cons_of_mem _ hd)]
theorem ofList_ascii (l : List Char) (h : ∀ c ∈ l, c.toNat < 128) : (Str.ofString (String.ofList l)).cps.toList = l.map Char.toNat := by
  unfold Str.ofString
  show (cpsOfBytes 0 0 (String.ofList l).toByteArray.data.toList) = _
  rw [String.toByteArray_ofList, ← ofBytes_ascii l h]
  congr 1
  unfold List.utf8Encode
  simp
def dg (n : Nat) : List Nat := (Nat.toDigits 10 n).map Char.toNat
theorem dg_char {d : Nat} (h : d < 10) : (Nat.digitChar d).toNat = 48 + d := by
  have : ∀ d : Fin 10, (Nat.digitChar d.val).toNat = 48 + d.val := by decide
  exact this ⟨d, h⟩
theorem dg_lt {n : Nat} (h : n < 10) : dg n = [48 + n] := by
  unfold dg
  rw [Nat.toDigits_of_lt_base h, List.map_cons, List.map_nil, dg_char h]
theorem dg_step {n : Nat} (h : 10 ≤ n) : dg n = dg (n / 10) ++ [48 + n % 10] := by
  have e := Nat.toDigits_append_toDigits (b := 10) (n := n / 10) (d := n % 10) (by decide) (by omega) (by omega)
  rw [show 10 * (n / 10) + n % 10 = n by omega] at e
  unfold dg
  rw [← e, List.map_append, Nat.toDigits_of_lt_base (by omega : n % 10 < 10), List.map_cons, List.map_nil, dg_char (by omega)]
theorem dg_val : ∀ n : Nat, digitsVal (dg n) = n := by
  intro n
  induction n using Nat.strongRecOn with
  | _ n ih =>
    by_cases h : n < 10
    · rw [dg_lt h]
      show 0 * 10 + (48 + n - 48) = n
      omega
    · rw [dg_step (by omega), digitsVal_snoc, ih (n / 10) (by omega)]
      omega
theorem dg_all : ∀ n : Nat, AllDigits (dg n) := by
  intro n
  induction n using Nat.strongRecOn with
  | _ n ih =>
    by_cases h : n < 10
    · rw [dg_lt h]
      intro c hc
      rw [List.mem_singleton.mp hc]
      omega
    · rw [dg_step (by omega)]
      intro c hc
      rcases List.mem_append.mp hc with hc | hc
      · exact ih (n / 10) (by omega) c hc
      · rw [List.mem_singleton.mp hc]
        omega
theorem dg_head : ∀ n : Nat, n ≠ 0 → ∃ c r, dg n = c :: r ∧ c ≠ 48 := by
  intro n
  induction n using Nat.strongRecOn with
  | _ n ih =>
    intro hn
    by_cases h : n < 10
    · exact ⟨48 + n, [], dg_lt h, by omega⟩
    · obtain ⟨c, r, e, hc⟩ := ih (n / 10) (by omega) (by omega)
      exact ⟨c, r ++ [48 + n % 10], by rw [dg_step (by omega), e]; rfl, hc⟩
theorem dg_nil (n : Nat) : dg n ≠ [] := by
  by_cases h : n < 10
  · rw [dg_lt h]; exact List.cons_ne_nil _ _
  · rw [dg_step (by omega)]; simp
theorem dg_len : ∀ (k n : Nat), n < 10 ^ (k + 1) → (dg n).length ≤ k + 1
  | 0, n, h => by
    rw [dg_lt (by omega)]
    exact Nat.le_refl _
  | k + 1, n, h => by
    by_cases h' : n < 10
    · rw [dg_lt h']
      exact Nat.succ_le_succ (Nat.zero_le _)
    · rw [dg_step (by omega), List.length_append]
      have := dg_len k (n / 10) (by rw [Nat.pow_succ] at h; omega)
      exact Nat.succ_le_succ this
theorem cps_nat (n : Nat) : (Str.ofString (toString ((n : Nat) : Int))).cps.toList = dg n := by
  show (Str.ofString (String.ofList (Nat.toDigits 10 n))).cps.toList = _
  refine ofList_ascii _ fun c hc => ?_
  have : c.toNat ∈ dg n := List.mem_map.mpr ⟨c, hc, rfl⟩
  have := dg_all n _ this
  omega
theorem int_nat {n : Nat} (h : n ≤ 10 ^ 100) : intText? (Str.ofString (toString ((n : Nat) : Int))) = some (n : Int) := by
  have e := cps_nat n
  have l := dg_len 100 n (by omega)
  rw [intText_digits (by rw [e]; exact dg_all n) (by rw [e]; exact dg_nil n) (by rw [len_cps, e]; omega), e, dg_val]
end Bs

namespace Bs
open PySem PySem.Spec PyProof.Rows L2 PySem.NumText
/-! ### split behind join -/
theorem forIn_ite {α β : Type} (c : α → β → Prop) [∀ a b, Decidable (c a b)] (f g : α → β → β) : ∀ (l : List α) (init : β),
    (forIn (m := Id) l init fun a b => if c a b then pure (ForInStep.yield (f a b)) else pure (ForInStep.yield (g a b))) = pure (l.foldl (fun b a => if c a b then f a b else g a b) init)
  | [], init => rfl
  | a :: l, init => by
    rw [List.forIn_cons, List.foldl_cons]
    by_cases h : c a init
    · rw [if_pos h, if_pos h]
      exact forIn_ite c f g l (f a init)
    · rw [if_neg h, if_neg h]
      exact forIn_ite c f g l (g a init)
def hit (L B : List Nat) (i : Nat) : Bool := decide (i + B.length ≤ L.length) && decide ((L.drop i).take B.length = B)
theorem sub_at (s sub : Str) (i : Nat) : Builtin.Str.subAt s sub i = decide ((s.cps.toList.drop i).take sub.cps.toList.length = sub.cps.toList) := by
  unfold Builtin.Str.subAt
  have e : (s.cps.extract i (i + sub.length)).toList = (s.cps.toList.drop i).take sub.cps.toList.length := by
    rw [Array.toList_extract, List.extract_eq_take_drop]
    show ((s.cps.toList.drop i).take (i + sub.cps.size - i)) = (s.cps.toList.drop i).take sub.cps.size
    rw [Nat.add_sub_cancel_left]
  by_cases h : (s.cps.toList.drop i).take sub.cps.toList.length = sub.cps.toList
  · rw [decide_eq_true h]
    have : s.cps.extract i (i + sub.length) = sub.cps := Array.toList_inj.mp (by rw [e, h])
    rw [this]
    exact beq_self_eq_true _
  · rw [decide_eq_false h]
    rw [beq_eq_false_iff_ne]
    intro z
    exact h (by rw [← e, z])
theorem fold_hits (L B : List Nat) (lim : Nat) (sep : ∀ i j, hit L B i = true → i < j → hit L B j = true → i + B.length ≤ j) : ∀ (n a : Nat) (F : Array Nat) (fr : Nat), F.size + n ≤ lim → (∀ i, a ≤ i → hit L B i = true → fr ≤ i) →
    ((List.range' a n).foldl (fun (b : Array Nat × Nat) (i : Nat) => if ((b.fst.size < lim ∧ b.snd ≤ i) ∧ i + B.length ≤ L.length) ∧ (L.drop i).take B.length = B then (b.fst.push i, i + B.length) else (b.fst, b.snd)) (F, fr)).fst.toList = F.toList ++ (List.range' a n).filter (hit L B)
  | 0, a, F, fr, _, _ => by simp
  | n + 1, a, F, fr, hl, hf => by
    rw [List.range'_succ, List.foldl_cons, List.filter_cons]
    by_cases h : hit L B a = true
    · rw [if_pos h]
      obtain ⟨h1, h2⟩ := Bool.and_eq_true_iff.mp h
      rw [if_pos (⟨⟨⟨by show F.size < lim; omega, hf a (Nat.le_refl _) h⟩, of_decide_eq_true h1⟩, of_decide_eq_true h2⟩)]
      rw [fold_hits L B lim sep n (a + 1) _ _ (by show (F.push a).size + n ≤ lim; rw [Array.size_push]; omega) fun i hi hh => sep a i h (by omega) hh]
      simp
    · rw [if_neg h, if_neg (fun z => h (by unfold hit; rw [decide_eq_true z.1.2, decide_eq_true z.2]; rfl))]
      exact fold_hits L B lim sep n (a + 1) F fr (by omega) fun i hi hh => hf i (by omega) hh
theorem occ_hits (s sub : Str) (sep : ∀ i j, hit s.cps.toList sub.cps.toList i = true → i < j → hit s.cps.toList sub.cps.toList j = true → i + sub.cps.toList.length ≤ j) :
    Builtin.Str.occurrences s sub 0 s.length (s.length + 1) = (List.range' 0 (s.length + 1)).filter (hit s.cps.toList sub.cps.toList) := by
  have e : Builtin.Str.occurrences s sub 0 s.length (s.length + 1) = ((List.range' 0 (s.length + 1)).foldl (fun (b : Array Nat × Nat) (i : Nat) => if ((b.fst.size < s.length + 1 ∧ b.snd ≤ i) ∧ i + sub.cps.toList.length ≤ s.cps.toList.length) ∧ (s.cps.toList.drop i).take sub.cps.toList.length = sub.cps.toList then (b.fst.push i, i + sub.cps.toList.length) else (b.fst, b.snd)) (#[], 0)).fst.toList := by
    simp [Builtin.Str.occurrences, sub_at]
    rw [forIn_ite]
    rfl
  rw [e, fold_hits _ _ _ sep (s.length + 1) 0 #[] 0 (by simp) fun i _ _ => Nat.zero_le _]
  rfl
/-- parts with signs between -/
def joinL (B p : List Nat) (r : List (List Nat)) : List Nat := p ++ r.flatMap fun q => B ++ q
def cutsL (w : Nat) : Nat → List Nat → List (List Nat) → List Nat
  | _, _, [] => []
  | k, p, q :: r => (k + p.length) :: cutsL w (k + p.length + w) q r
theorem joinL_cons (B p q : List Nat) (r : List (List Nat)) : joinL B p (q :: r) = p ++ B ++ joinL B q r := by
  unfold joinL
  rw [List.flatMap_cons, List.append_assoc, List.append_assoc]
theorem hit_head {L t : List Nat} {c i : Nat} (h : hit L (c :: t) i = true) : L[i]? = some c := by
  obtain ⟨h1, h2⟩ := Bool.and_eq_true_iff.mp h
  have h2 := of_decide_eq_true h2
  have : (L.drop i)[0]? = some c := by
    have e : ((L.drop i).take (c :: t).length)[0]? = some c := by rw [h2]; rfl
    rw [List.getElem?_take] at e
    rw [if_pos (by simp)] at e
    exact e
  rw [List.getElem?_drop] at this
  exact this
theorem hit_yes {A B C : List Nat} : hit (A ++ B ++ C) B A.length = true := by
  unfold hit
  rw [decide_eq_true (by simp only [List.length_append]; omega), decide_eq_true]
  · rfl
  · rw [List.append_assoc, List.drop_left, List.take_left]
theorem filter_none {α : Type} {p : α → Bool} {l : List α} (h : ∀ x ∈ l, p x = false) : l.filter p = [] := List.filter_eq_nil_iff.mpr fun x hx => by rw [h x hx]; decide
theorem hits_join {c : Nat} {t : List Nat} (ct : c ∉ t) : ∀ (r : List (List Nat)) (p pre : List Nat), c ∉ p → (∀ q ∈ r, c ∉ q) →
    (List.range' pre.length ((joinL (c :: t) p r).length + 1)).filter (hit (pre ++ joinL (c :: t) p r) (c :: t)) = cutsL (t.length + 1) pre.length p r
  | [], p, pre, hp, _ => by
    have e : joinL (c :: t) p [] = p := by unfold joinL; simp
    rw [e]
    refine filter_none fun i hi => ?_
    rw [List.mem_range'_1] at hi
    cases h : hit (pre ++ p) (c :: t) i with
    | false => rfl
    | true =>
      have := hit_head h
      rw [List.getElem?_append_right (by omega)] at this
      exact absurd (List.mem_of_getElem? this) hp
  | q :: r, p, pre, hp, hr => by
    have ih := hits_join ct r q (pre ++ p ++ (c :: t)) (hr q (List.mem_cons_self ..)) fun x hx => hr x (List.mem_cons_of_mem _ hx)
    rw [joinL_cons]
    have eL : pre ++ (p ++ (c :: t) ++ joinL (c :: t) q r) = pre ++ p ++ (c :: t) ++ joinL (c :: t) q r := by simp only [List.append_assoc]
    rw [eL]
    have el : (p ++ (c :: t) ++ joinL (c :: t) q r).length + 1 = p.length + (1 + (t.length + ((joinL (c :: t) q r).length + 1))) := by
      simp only [List.length_append, List.length_cons]; omega
    have pl : (pre ++ p ++ (c :: t)).length = pre.length + p.length + 1 + t.length := by simp only [List.length_append, List.length_cons]; omega
    rw [pl] at ih
    rw [el, ← List.range'_append_1, ← List.range'_append_1, ← List.range'_append_1, List.filter_append, List.filter_append, List.filter_append, ih]
    have n1 : (List.range' pre.length p.length).filter (hit (pre ++ p ++ (c :: t) ++ joinL (c :: t) q r) (c :: t)) = [] := filter_none fun i hi => by
      rw [List.mem_range'_1] at hi
      cases h : hit (pre ++ p ++ (c :: t) ++ joinL (c :: t) q r) (c :: t) i with
      | false => rfl
      | true =>
        have := hit_head h
        rw [List.append_assoc, List.append_assoc, List.getElem?_append_right (by omega), List.getElem?_append_left (by omega)] at this
        exact absurd (List.mem_of_getElem? this) hp
    have n2 : (List.range' (pre.length + p.length + 1) t.length).filter (hit (pre ++ p ++ (c :: t) ++ joinL (c :: t) q r) (c :: t)) = [] := filter_none fun i hi => by
      rw [List.mem_range'_1] at hi
      cases h : hit (pre ++ p ++ (c :: t) ++ joinL (c :: t) q r) (c :: t) i with
      | false => rfl
      | true =>
        have := hit_head h
        have e3 : pre ++ p ++ (c :: t) ++ joinL (c :: t) q r = (pre ++ p ++ [c]) ++ (t ++ joinL (c :: t) q r) := by simp
        have l3 : (pre ++ p ++ [c]).length = pre.length + p.length + 1 := by simp only [List.length_append, List.length_cons, List.length_nil]
        rw [e3, List.getElem?_append_right (by omega), List.getElem?_append_left (by omega)] at this
        exact absurd (List.mem_of_getElem? this) ct
    have y1 : (List.range' (pre.length + p.length) 1).filter (hit (pre ++ p ++ (c :: t) ++ joinL (c :: t) q r) (c :: t)) = [pre.length + p.length] := by
      have h := hit_yes (A := pre ++ p) (B := c :: t) (C := joinL (c :: t) q r)
      rw [List.length_append] at h
      show List.filter _ [pre.length + p.length] = _
      rw [List.filter_cons_of_pos h]
      rfl
    rw [n1, n2, y1]
    show [] ++ ([pre.length + p.length] ++ ([] ++ _)) = _
    rw [List.nil_append, List.nil_append]
    show _ :: cutsL (t.length + 1) _ q r = _ :: cutsL (t.length + 1) _ q r
    rw [show pre.length + p.length + 1 + t.length = pre.length + p.length + (t.length + 1) by omega]
theorem parts_join {s : Str} {B : List Nat} : ∀ (r : List (List Nat)) (p pre : List Nat), s.cps.toList = pre ++ joinL B p r →
    ((pre.length :: (cutsL B.length pre.length p r).map (· + B.length)).zip (cutsL B.length pre.length p r ++ [s.length])).map (fun x => (Builtin.Str.strSub s x.1 x.2).cps.toList) = p :: r
  | [], p, pre, h => by
    have e : joinL B p [] = p := by unfold joinL; simp
    rw [e] at h
    show [(s.cps.extract pre.length s.length).toList] = [p]
    rw [Array.toList_extract, List.extract_eq_take_drop, h, List.drop_left, len_cps, h, List.take_of_length_le (by rw [List.length_append]; omega)]
  | q :: r, p, pre, h => by
    have ih := parts_join (s := s) (B := B) r q (pre ++ p ++ B) (by rw [h, joinL_cons]; simp only [List.append_assoc])
    have pl : (pre ++ p ++ B).length = pre.length + p.length + B.length := by simp only [List.length_append]
    rw [pl] at ih
    show (s.cps.extract pre.length (pre.length + p.length)).toList :: _ = _
    rw [Array.toList_extract, List.extract_eq_take_drop, h, List.drop_left, Nat.add_sub_cancel_left, joinL_cons, List.append_assoc, List.take_left]
    congr 1
theorem glued_list (sep : Str) : ∀ (r : List Str) (a : Array Nat), (r.foldl (fun acc p => acc ++ sep.cps ++ p.cps) a).toList = joinL sep.cps.toList a.toList (r.map fun p => p.cps.toList)
  | [], a => by unfold joinL; simp
  | q :: r, a => by
    rw [List.foldl_cons, glued_list sep r, List.map_cons, joinL_cons]
    unfold joinL
    simp
theorem join_list (sep p : Str) (r : List Str) : (Txt.join sep (p :: r)).cps.toList = joinL sep.cps.toList p.cps.toList (r.map fun p => p.cps.toList) := by
  show (List.foldl (fun acc p => acc ++ sep.cps ++ p.cps) p.cps r).toList = _
  exact glued_list sep r p.cps
theorem kind_1 {s : Str} (h : ∀ c ∈ s.cps.toList, c < 128) : Builtin.Str.strKind s = 1 := by
  unfold Builtin.Str.strKind
  rw [if_pos]
  rw [Array.all_eq_true']
  intro c hc
  have := h c (Array.mem_toList_iff.mpr hc)
  exact decide_eq_true (by omega)
theorem kind_ge (s : Str) : 1 ≤ Builtin.Str.strKind s := by
  unfold Builtin.Str.strKind
  split
  · exact Nat.le_refl _
  · split <;> decide
theorem cuts_nil {w k : Nat} {p : List Nat} {r : List (List Nat)} (h : cutsL w k p r = []) : r = [] := by
  cases r with
  | nil => rfl
  | cons q r => cases h
theorem split_join {sep : Str} {c : Nat} {t : List Nat} (hs : sep.cps.toList = c :: t) (ct : c ∉ t) (ha : ∀ x ∈ sep.cps.toList, x < 128) (p : Str) (r : List Str) (hp : ∀ q ∈ p :: r, c ∉ q.cps.toList) : Txt.split (Txt.join sep (p :: r)) sep = p :: r := by
  have eL := join_list sep p r
  generalize Txt.join sep (p :: r) = s at *
  rw [hs] at eL
  have hl : sep.cps.toList.length = t.length + 1 := by rw [hs]; rfl
  have cuts := hits_join ct (r.map fun p => p.cps.toList) p.cps.toList [] (hp p (List.mem_cons_self ..)) fun q hq => by
    obtain ⟨x, hx, rfl⟩ := List.mem_map.mp hq
    exact hp x (List.mem_cons_of_mem _ hx)
  rw [List.nil_append, ← eL] at cuts
  have sepd : ∀ i j, hit s.cps.toList sep.cps.toList i = true → i < j → hit s.cps.toList sep.cps.toList j = true → i + sep.cps.toList.length ≤ j := fun i j hi hij hj => by
    rw [hs] at hi hj
    have h2 := hit_head hj
    obtain ⟨h3, h4⟩ := Bool.and_eq_true_iff.mp hi
    have h3 := of_decide_eq_true h3
    have h4 := of_decide_eq_true h4
    rw [hl]
    refine Decidable.byContradiction fun z => ?_
    have e : ((s.cps.toList.drop i).take (c :: t).length)[j - i]? = some c := by
      rw [List.getElem?_take, if_pos (by show j - i < t.length + 1; omega), List.getElem?_drop, show i + (j - i) = j by omega, h2]
    rw [h4] at e
    obtain ⟨k, hk⟩ : ∃ k, j - i = k + 1 := ⟨j - i - 1, by omega⟩
    rw [hk] at e
    exact ct (List.mem_of_getElem? (by simpa using e))
  have occ := occ_hits s sep sepd
  rw [hs, len_cps] at occ
  have cuts' : (List.range' 0 (s.cps.toList.length + 1)).filter (hit s.cps.toList (c :: t)) = cutsL (t.length + 1) 0 p.cps.toList (r.map fun p => p.cps.toList) := cuts
  rw [cuts'] at occ
  have kd : ¬ Builtin.Str.strKind s < Builtin.Str.strKind sep := by
    rw [kind_1 ha]
    have := kind_ge s
    omega
  have back : ∀ xs ys : List Str, xs.map (fun x => x.cps.toList) = ys.map (fun x => x.cps.toList) → xs = ys := by
    intro xs
    induction xs with
    | nil => intro ys h; cases ys with | nil => rfl | cons y ys => cases h
    | cons x xs ih =>
      intro ys h
      cases ys with
      | nil => cases h
      | cons y ys =>
        rw [List.map_cons, List.map_cons] at h
        injection h with h1 h2
        rw [str_ext h1, ih ys h2]
  have one : r = [] → [s] = p :: r := fun h => by
    subst h
    refine back _ _ ?_
    show [s.cps.toList] = [p.cps.toList]
    rw [eL]
    unfold joinL
    simp
  unfold Txt.split
  by_cases hlen : s.length < sep.length
  · rw [decide_eq_true hlen, Bool.true_or, if_pos rfl]
    refine one ?_
    cases r with
    | nil => rfl
    | cons q r =>
      rw [len_cps, len_cps, eL, List.map_cons, joinL_cons, hl] at hlen
      simp only [List.length_append, List.length_cons] at hlen
      omega
  · rw [decide_eq_false hlen, decide_eq_false kd, Bool.or_false, if_neg (by decide), len_cps, occ]
    by_cases he : cutsL (t.length + 1) 0 p.cps.toList (r.map fun p => p.cps.toList) = []
    · rw [he, if_pos (show ([] : List Nat).isEmpty = true from rfl)]
      have := cuts_nil he
      exact one (List.map_eq_nil_iff.mp this)
    · rw [if_neg (fun z => he (List.isEmpty_iff.mp z))]
      have pj := parts_join (s := s) (B := c :: t) (r.map fun p => p.cps.toList) p.cps.toList [] (by rw [eL]; rfl)
      refine back _ _ ?_
      unfold Builtin.Str.partsBetween
      rw [List.map_map, List.map_cons]
      show List.map _ ((0 :: _).zip _) = _
      rw [len_cps sep, hl]
      exact pj
theorem fold_len (L B : List Nat) (lim : Nat) : ∀ (l : List Nat) (b : Array Nat × Nat),
    (l.foldl (fun (b : Array Nat × Nat) (i : Nat) => if ((b.fst.size < lim ∧ b.snd ≤ i) ∧ i + B.length ≤ L.length) ∧ (L.drop i).take B.length = B then (b.fst.push i, i + B.length) else (b.fst, b.snd)) b).fst.size ≤ b.fst.size + l.length
  | [], b => Nat.le_refl _
  | i :: l, b => by
    rw [List.foldl_cons]
    refine Nat.le_trans (fold_len L B lim l _) ?_
    rw [List.length_cons]
    split
    · show (b.fst.push i).size + l.length ≤ _
      rw [Array.size_push]
      omega
    · show b.fst.size + l.length ≤ _
      omega
theorem occ_len (s sub : Str) : (Builtin.Str.occurrences s sub 0 s.length (s.length + 1)).length ≤ s.length + 1 := by
  have e : Builtin.Str.occurrences s sub 0 s.length (s.length + 1) = ((List.range' 0 (s.length + 1)).foldl (fun (b : Array Nat × Nat) (i : Nat) => if ((b.fst.size < s.length + 1 ∧ b.snd ≤ i) ∧ i + sub.cps.toList.length ≤ s.cps.toList.length) ∧ (s.cps.toList.drop i).take sub.cps.toList.length = sub.cps.toList then (b.fst.push i, i + sub.cps.toList.length) else (b.fst, b.snd)) (#[], 0)).fst.toList := by
    simp [Builtin.Str.occurrences, sub_at]
    rw [forIn_ite]
    rfl
  rw [e, Array.length_toList]
  refine Nat.le_trans (fold_len _ _ _ _ _) ?_
  rw [List.length_range']
  show 0 + (s.length + 1) ≤ _
  omega
theorem split_ne (x y : Str) : Txt.split x y ≠ [] := by
  unfold Txt.split
  split
  · exact List.cons_ne_nil _ _
  · split
    · exact List.cons_ne_nil _ _
    · unfold Builtin.Str.partsBetween
      cases Builtin.Str.occurrences x y 0 x.length (x.length + 1) with
      | nil => exact List.cons_ne_nil _ _
      | cons a l => exact List.cons_ne_nil _ _
theorem split_len (x y : Str) : (Txt.split x y).length ≤ x.length + 2 := by
  unfold Txt.split
  split
  · show 1 ≤ _; omega
  · split
    · show 1 ≤ _; omega
    · unfold Builtin.Str.partsBetween
      have := occ_len x y
      rw [List.length_map, List.length_zip, List.length_append, List.length_cons, List.length_cons, List.length_map, List.length_nil]
      omega
theorem split_mem {x y p : Str} (h : p ∈ Txt.split x y) : (∀ c ∈ p.cps.toList, c ∈ x.cps.toList) ∧ p.length ≤ x.length := by
  have me : ∀ q, q = x → (∀ c ∈ q.cps.toList, c ∈ x.cps.toList) ∧ q.length ≤ x.length := fun q e => by rw [e]; exact ⟨fun _ h => h, Nat.le_refl _⟩
  unfold Txt.split at h
  split at h
  · exact me _ (List.mem_singleton.mp h)
  · split at h
    · exact me _ (List.mem_singleton.mp h)
    · unfold Builtin.Str.partsBetween at h
      obtain ⟨q, _, rfl⟩ := List.mem_map.mp h
      show (∀ c ∈ (x.cps.extract q.1 q.2).toList, c ∈ x.cps.toList) ∧ (x.cps.extract q.1 q.2).size ≤ x.cps.size
      rw [Array.toList_extract, List.extract_eq_take_drop]
      refine ⟨fun c hc => List.mem_of_mem_drop (List.mem_of_mem_take hc), ?_⟩
      rw [Array.size_extract]
      omega
end Bs

namespace Bs
open PySem PySem.Spec PyProof.Rows L2
open Evl (Ex)
def topS (i : Nat) : Stmt := PySem.Challenge.pw_backslots_k49_whole_texts.main.body.getD i (.Pass ⟨0, 0, 0, 0⟩)
abbrev s_InvalidOperations___init__ : Stmt := inClass (topS 2) 0
abbrev s_InvalidText___init__ : Stmt := inClass (topS 3) 0
abbrev s_CannotDo___init__ : Stmt := inClass (topS 4) 0
abbrev s_TooLarge___init__ : Stmt := inClass (topS 5) 0
abbrev s_TooDeep___init__ : Stmt := inClass (topS 6) 0
abbrev s_is_int : Stmt := topS 11
abbrev s_is_whole : Stmt := topS 12
abbrev s_require_length : Stmt := topS 17
abbrev s_require_slots : Stmt := topS 18
abbrev s_require_task : Stmt := topS 19
abbrev s_reach_of : Stmt := topS 20
abbrev s_rounds_of : Stmt := topS 21
abbrev s_is_operation : Stmt := topS 25
abbrev s_require_operations : Stmt := topS 26
abbrev s_Trace___init__ : Stmt := inClass (topS 27) 0
abbrev s_Trace_hand : Stmt := inClass (topS 27) 1
abbrev s_Trace_kept : Stmt := inClass (topS 27) 2
abbrev s_Trace_steps : Stmt := inClass (topS 27) 3
abbrev s_Trace_backs : Stmt := inClass (topS 27) 4
abbrev s_Trace_copied : Stmt := inClass (topS 27) 5
abbrev s_Trace_can_do : Stmt := inClass (topS 27) 6
abbrev s_Trace_do : Stmt := inClass (topS 27) 7
abbrev s_require_list : Stmt := topS 28
abbrev s_wrong_of : Stmt := topS 29
abbrev s_traces_of : Stmt := topS 30
abbrev s_steps_of : Stmt := topS 31
abbrev s_backs_of : Stmt := topS 32
abbrev s_operation_text : Stmt := topS 36
abbrev s_show_list : Stmt := topS 37
abbrev s_whole_in : Stmt := topS 38
abbrev s_operation_in : Stmt := topS 39
abbrev s_read_list : Stmt := topS 40
abbrev s_closed_count : Stmt := topS 43
abbrev s_halves_of : Stmt := topS 44
abbrev s_own_operations : Stmt := topS 45
abbrev s_count_of : Stmt := topS 46
abbrev s_parts_of : Stmt := topS 47
abbrev s_whole_plan : Stmt := topS 48
abbrev s_row_operation : Stmt := topS 49
abbrev s_operation_of : Stmt := topS 50
abbrev s_operation_count : Stmt := topS 51
abbrev s_operation_at : Stmt := topS 52
abbrev s_plan_list : Stmt := topS 53
abbrev s_L_bag : Stmt := topS 55
abbrev s_L_pick : Stmt := topS 56
abbrev s_L_lists : Stmt := topS 57
abbrev s_law : Stmt := topS 58
structure Txt (P : Program) (w : World) (K : PySem.W.Frag) (mg : Str → Option Value) (base : Heap) where
  a_InvalidOperations___init__ : Addr
  fd_InvalidOperations___init__ : FuncData
  F_InvalidOperations___init__ : FnP K "__init__" "InvalidOperations.__init__" s_InvalidOperations___init__ a_InvalidOperations___init__ fd_InvalidOperations___init__
  b_InvalidOperations___init__ : Binds K fd_InvalidOperations___init__ ["self", "item"] []
  a_InvalidText___init__ : Addr
  fd_InvalidText___init__ : FuncData
  F_InvalidText___init__ : FnP K "__init__" "InvalidText.__init__" s_InvalidText___init__ a_InvalidText___init__ fd_InvalidText___init__
  b_InvalidText___init__ : Binds K fd_InvalidText___init__ ["self", "part"] []
  a_CannotDo___init__ : Addr
  fd_CannotDo___init__ : FuncData
  F_CannotDo___init__ : FnP K "__init__" "CannotDo.__init__" s_CannotDo___init__ a_CannotDo___init__ fd_CannotDo___init__
  b_CannotDo___init__ : Binds K fd_CannotDo___init__ ["self", "operation"] []
  a_TooLarge___init__ : Addr
  fd_TooLarge___init__ : FuncData
  F_TooLarge___init__ : FnP K "__init__" "TooLarge.__init__" s_TooLarge___init__ a_TooLarge___init__ fd_TooLarge___init__
  b_TooLarge___init__ : Binds K fd_TooLarge___init__ ["self", "limit"] []
  a_TooDeep___init__ : Addr
  fd_TooDeep___init__ : FuncData
  F_TooDeep___init__ : FnP K "__init__" "TooDeep.__init__" s_TooDeep___init__ a_TooDeep___init__ fd_TooDeep___init__
  b_TooDeep___init__ : Binds K fd_TooDeep___init__ ["self", "rounds"] []
  a_is_int : Addr
  fd_is_int : FuncData
  F_is_int : FnP K "is_int" "is_int" s_is_int a_is_int fd_is_int
  b_is_int : Binds K fd_is_int ["value"] []
  g_is_int : mg "is_int" = some (.ref a_is_int)
  a_is_whole : Addr
  fd_is_whole : FuncData
  F_is_whole : FnP K "is_whole" "is_whole" s_is_whole a_is_whole fd_is_whole
  b_is_whole : Binds K fd_is_whole ["value", "low", "high"] []
  g_is_whole : mg "is_whole" = some (.ref a_is_whole)
  a_require_length : Addr
  fd_require_length : FuncData
  F_require_length : FnP K "require_length" "require_length" s_require_length a_require_length fd_require_length
  b_require_length : Binds K fd_require_length ["value"] []
  g_require_length : mg "require_length" = some (.ref a_require_length)
  a_require_slots : Addr
  fd_require_slots : FuncData
  F_require_slots : FnP K "require_slots" "require_slots" s_require_slots a_require_slots fd_require_slots
  b_require_slots : Binds K fd_require_slots ["value"] []
  g_require_slots : mg "require_slots" = some (.ref a_require_slots)
  a_require_task : Addr
  fd_require_task : FuncData
  F_require_task : FnP K "require_task" "require_task" s_require_task a_require_task fd_require_task
  b_require_task : Binds K fd_require_task ["length", "slots"] []
  g_require_task : mg "require_task" = some (.ref a_require_task)
  a_reach_of : Addr
  fd_reach_of : FuncData
  F_reach_of : FnP K "reach_of" "reach_of" s_reach_of a_reach_of fd_reach_of
  b_reach_of : Binds K fd_reach_of ["slots", "rounds"] []
  g_reach_of : mg "reach_of" = some (.ref a_reach_of)
  a_rounds_of : Addr
  fd_rounds_of : FuncData
  F_rounds_of : FnP K "rounds_of" "rounds_of" s_rounds_of a_rounds_of fd_rounds_of
  b_rounds_of : Binds K fd_rounds_of ["length", "slots"] []
  g_rounds_of : mg "rounds_of" = some (.ref a_rounds_of)
  a_is_operation : Addr
  fd_is_operation : FuncData
  F_is_operation : FnP K "is_operation" "is_operation" s_is_operation a_is_operation fd_is_operation
  b_is_operation : Binds K fd_is_operation ["value"] []
  g_is_operation : mg "is_operation" = some (.ref a_is_operation)
  a_require_operations : Addr
  fd_require_operations : FuncData
  F_require_operations : FnP K "require_operations" "require_operations" s_require_operations a_require_operations fd_require_operations
  b_require_operations : Binds K fd_require_operations ["value"] []
  g_require_operations : mg "require_operations" = some (.ref a_require_operations)
  a_Trace___init__ : Addr
  fd_Trace___init__ : FuncData
  F_Trace___init__ : FnP K "__init__" "Trace.__init__" s_Trace___init__ a_Trace___init__ fd_Trace___init__
  b_Trace___init__ : Binds K fd_Trace___init__ ["self", "length", "slots"] []
  a_Trace_hand : Addr
  fd_Trace_hand : FuncData
  F_Trace_hand : FnP K "hand" "Trace.hand" s_Trace_hand a_Trace_hand fd_Trace_hand
  b_Trace_hand : Binds K fd_Trace_hand ["self"] []
  a_Trace_kept : Addr
  fd_Trace_kept : FuncData
  F_Trace_kept : FnP K "kept" "Trace.kept" s_Trace_kept a_Trace_kept fd_Trace_kept
  b_Trace_kept : Binds K fd_Trace_kept ["self"] []
  a_Trace_steps : Addr
  fd_Trace_steps : FuncData
  F_Trace_steps : FnP K "steps" "Trace.steps" s_Trace_steps a_Trace_steps fd_Trace_steps
  b_Trace_steps : Binds K fd_Trace_steps ["self"] []
  a_Trace_backs : Addr
  fd_Trace_backs : FuncData
  F_Trace_backs : FnP K "backs" "Trace.backs" s_Trace_backs a_Trace_backs fd_Trace_backs
  b_Trace_backs : Binds K fd_Trace_backs ["self"] []
  a_Trace_copied : Addr
  fd_Trace_copied : FuncData
  F_Trace_copied : FnP K "copied" "Trace.copied" s_Trace_copied a_Trace_copied fd_Trace_copied
  b_Trace_copied : Binds K fd_Trace_copied ["self"] []
  a_Trace_can_do : Addr
  fd_Trace_can_do : FuncData
  F_Trace_can_do : FnP K "can_do" "Trace.can_do" s_Trace_can_do a_Trace_can_do fd_Trace_can_do
  b_Trace_can_do : Binds K fd_Trace_can_do ["self", "operation"] []
  a_Trace_do : Addr
  fd_Trace_do : FuncData
  F_Trace_do : FnP K "do" "Trace.do" s_Trace_do a_Trace_do fd_Trace_do
  b_Trace_do : Binds K fd_Trace_do ["self", "operation"] []
  a_require_list : Addr
  fd_require_list : FuncData
  F_require_list : FnP K "require_list" "require_list" s_require_list a_require_list fd_require_list
  b_require_list : Binds K fd_require_list ["length", "slots", "operations"] []
  g_require_list : mg "require_list" = some (.ref a_require_list)
  a_wrong_of : Addr
  fd_wrong_of : FuncData
  F_wrong_of : FnP K "wrong_of" "wrong_of" s_wrong_of a_wrong_of fd_wrong_of
  b_wrong_of : Binds K fd_wrong_of ["length", "slots", "operations"] []
  g_wrong_of : mg "wrong_of" = some (.ref a_wrong_of)
  a_traces_of : Addr
  fd_traces_of : FuncData
  F_traces_of : FnP K "traces_of" "traces_of" s_traces_of a_traces_of fd_traces_of
  b_traces_of : Binds K fd_traces_of ["length", "slots", "operations"] []
  g_traces_of : mg "traces_of" = some (.ref a_traces_of)
  a_steps_of : Addr
  fd_steps_of : FuncData
  F_steps_of : FnP K "steps_of" "steps_of" s_steps_of a_steps_of fd_steps_of
  b_steps_of : Binds K fd_steps_of ["length", "slots", "operations"] []
  g_steps_of : mg "steps_of" = some (.ref a_steps_of)
  a_backs_of : Addr
  fd_backs_of : FuncData
  F_backs_of : FnP K "backs_of" "backs_of" s_backs_of a_backs_of fd_backs_of
  b_backs_of : Binds K fd_backs_of ["length", "slots", "operations"] []
  g_backs_of : mg "backs_of" = some (.ref a_backs_of)
  a_operation_text : Addr
  fd_operation_text : FuncData
  F_operation_text : FnP K "operation_text" "operation_text" s_operation_text a_operation_text fd_operation_text
  b_operation_text : Binds K fd_operation_text ["operation"] []
  g_operation_text : mg "operation_text" = some (.ref a_operation_text)
  a_show_list : Addr
  fd_show_list : FuncData
  F_show_list : FnP K "show_list" "show_list" s_show_list a_show_list fd_show_list
  b_show_list : Binds K fd_show_list ["operations"] []
  g_show_list : mg "show_list" = some (.ref a_show_list)
  a_whole_in : Addr
  fd_whole_in : FuncData
  F_whole_in : FnP K "whole_in" "whole_in" s_whole_in a_whole_in fd_whole_in
  b_whole_in : Binds K fd_whole_in ["word"] []
  g_whole_in : mg "whole_in" = some (.ref a_whole_in)
  a_operation_in : Addr
  fd_operation_in : FuncData
  F_operation_in : FnP K "operation_in" "operation_in" s_operation_in a_operation_in fd_operation_in
  b_operation_in : Binds K fd_operation_in ["part"] []
  g_operation_in : mg "operation_in" = some (.ref a_operation_in)
  a_read_list : Addr
  fd_read_list : FuncData
  F_read_list : FnP K "read_list" "read_list" s_read_list a_read_list fd_read_list
  b_read_list : Binds K fd_read_list ["text"] []
  g_read_list : mg "read_list" = some (.ref a_read_list)
  a_closed_count : Addr
  fd_closed_count : FuncData
  F_closed_count : FnP K "closed_count" "closed_count" s_closed_count a_closed_count fd_closed_count
  b_closed_count : Binds K fd_closed_count ["some"] []
  g_closed_count : mg "closed_count" = some (.ref a_closed_count)
  a_halves_of : Addr
  fd_halves_of : FuncData
  F_halves_of : FnP K "halves_of" "halves_of" s_halves_of a_halves_of fd_halves_of
  b_halves_of : Binds K fd_halves_of ["some"] []
  g_halves_of : mg "halves_of" = some (.ref a_halves_of)
  a_own_operations : Addr
  fd_own_operations : FuncData
  F_own_operations : FnP K "own_operations" "own_operations" s_own_operations a_own_operations fd_own_operations
  b_own_operations : Binds K fd_own_operations ["behind"] []
  g_own_operations : mg "own_operations" = some (.ref a_own_operations)
  a_count_of : Addr
  fd_count_of : FuncData
  F_count_of : FnP K "count_of" "count_of" s_count_of a_count_of fd_count_of
  b_count_of : Binds K fd_count_of ["some"] []
  g_count_of : mg "count_of" = some (.ref a_count_of)
  a_parts_of : Addr
  fd_parts_of : FuncData
  F_parts_of : FnP K "parts_of" "parts_of" s_parts_of a_parts_of fd_parts_of
  b_parts_of : Binds K fd_parts_of ["part"] []
  g_parts_of : mg "parts_of" = some (.ref a_parts_of)
  a_whole_plan : Addr
  fd_whole_plan : FuncData
  F_whole_plan : FnP K "whole_plan" "whole_plan" s_whole_plan a_whole_plan fd_whole_plan
  b_whole_plan : Binds K fd_whole_plan ["length", "slots"] []
  g_whole_plan : mg "whole_plan" = some (.ref a_whole_plan)
  a_row_operation : Addr
  fd_row_operation : FuncData
  F_row_operation : FnP K "row_operation" "row_operation" s_row_operation a_row_operation fd_row_operation
  b_row_operation : Binds K fd_row_operation ["part", "number"] []
  g_row_operation : mg "row_operation" = some (.ref a_row_operation)
  a_operation_of : Addr
  fd_operation_of : FuncData
  F_operation_of : FnP K "operation_of" "operation_of" s_operation_of a_operation_of fd_operation_of
  b_operation_of : Binds K fd_operation_of ["plan", "number"] []
  g_operation_of : mg "operation_of" = some (.ref a_operation_of)
  a_operation_count : Addr
  fd_operation_count : FuncData
  F_operation_count : FnP K "operation_count" "operation_count" s_operation_count a_operation_count fd_operation_count
  b_operation_count : Binds K fd_operation_count ["length", "slots"] []
  g_operation_count : mg "operation_count" = some (.ref a_operation_count)
  a_operation_at : Addr
  fd_operation_at : FuncData
  F_operation_at : FnP K "operation_at" "operation_at" s_operation_at a_operation_at fd_operation_at
  b_operation_at : Binds K fd_operation_at ["length", "slots", "number"] []
  g_operation_at : mg "operation_at" = some (.ref a_operation_at)
  a_plan_list : Addr
  fd_plan_list : FuncData
  F_plan_list : FnP K "plan_list" "plan_list" s_plan_list a_plan_list fd_plan_list
  b_plan_list : Binds K fd_plan_list ["length", "slots"] []
  g_plan_list : mg "plan_list" = some (.ref a_plan_list)
  a_L_bag : Addr
  fd_L_bag : FuncData
  F_L_bag : FnP K "_law_bag" "_law_bag" s_L_bag a_L_bag fd_L_bag
  b_L_bag : Binds K fd_L_bag ["_law_cell"] []
  g_L_bag : mg "_law_bag" = some (.ref a_L_bag)
  a_L_pick : Addr
  fd_L_pick : FuncData
  F_L_pick : FnP K "_law_pick" "_law_pick" s_L_pick a_L_pick fd_L_pick
  b_L_pick : Binds K fd_L_pick ["_law_bag_here", "_law_many"] []
  g_L_pick : mg "_law_pick" = some (.ref a_L_pick)
  a_L_lists : Addr
  fd_L_lists : FuncData
  F_L_lists : FnP K "_law_lists" "_law_lists" s_L_lists a_L_lists fd_L_lists
  b_L_lists : Binds K fd_L_lists ["_law_bag_here"] []
  g_L_lists : mg "_law_lists" = some (.ref a_L_lists)
  a_law : Addr
  fd_law : FuncData
  F_law : FnP K "law" "law" s_law a_law fd_law
  b_law : Binds K fd_law ["_law_script"] []
  g_law : mg "law" = some (.ref a_law)
  n_isinstance : mg "isinstance" = none
  n_int : mg "int" = none
  n_bool : mg "bool" = none
  n_range : mg "range" = none
  n_tuple : mg "tuple" = none
  n_str : mg "str" = none
  n_len : mg "len" = none
  n_list : mg "list" = none
  n_enumerate : mg "enumerate" = none
  n_property : mg "property" = none
  n_sorted : mg "sorted" = none
  n_all : mg "all" = none
  n_min : mg "min" = none
  n_divmod : mg "divmod" = none
  n_max : mg "max" = none
  n_zip : mg "zip" = none
  t_MOST_LENGTH : Tok
  c_MOST_LENGTH : mg "MOST_LENGTH" = some (.int 1000000000000000000000000000000 t_MOST_LENGTH)
  t_MOST_SLOTS : Tok
  c_MOST_SLOTS : mg "MOST_SLOTS" = some (.int 100 t_MOST_SLOTS)
  g_WORDS : mg "WORDS" = some (.ref (He.ga K "WORDS"))
  wd_WORDS : WordD K w (He.ga K "WORDS") [("go", .int 1), ("keep", .non), ("take", .int 0), ("free", .int 0), ("back", .non)]
  t_MOST_OPERATIONS_lists : Tok
  c_MOST_OPERATIONS_lists : mg "MOST_OPERATIONS_lists" = some (.int 400 t_MOST_OPERATIONS_lists)
  t_MOST_DIGITS : Tok
  c_MOST_DIGITS : mg "MOST_DIGITS" = some (.int 100 t_MOST_DIGITS)
  t_MOST_OPERATIONS_texts : Tok
  c_MOST_OPERATIONS_texts : mg "MOST_OPERATIONS_texts" = some (.int 400 t_MOST_OPERATIONS_texts)
  t_MOST_ROUNDS : Tok
  c_MOST_ROUNDS : mg "MOST_ROUNDS" = some (.int 1000 t_MOST_ROUNDS)
  t_MOST_LISTED : Tok
  c_MOST_LISTED : mg "MOST_LISTED" = some (.int 400 t_MOST_LISTED)
  er : ErrI K mg [0, 2, 3, 4, 5, 7, 8, 12, 17]
  sy : (K.lookup sysModules).isSome = true
  c_Trace : Cls K (He.ga K "Trace")
  g_Trace : mg "Trace" = some (.ref (He.ga K "Trace"))
  n_Trace_own_length : NoAttr K (He.ga K "Trace") "own_length"
  n_Trace_own_slots : NoAttr K (He.ga K "Trace") "own_slots"
  n_Trace_own_hand : NoAttr K (He.ga K "Trace") "own_hand"
  n_Trace_own_kept : NoAttr K (He.ga K "Trace") "own_kept"
  n_Trace_own_steps : NoAttr K (He.ga K "Trace") "own_steps"
  n_Trace_own_backs : NoAttr K (He.ga K "Trace") "own_backs"
  k_Trace : Mk K (He.ga K "Trace") a_Trace___init__
  m_Trace_copied : Meth K (He.ga K "Trace") "copied" a_Trace_copied
  m_Trace_can_do : Meth K (He.ga K "Trace") "can_do" a_Trace_can_do
  m_Trace_do : Meth K (He.ga K "Trace") "do" a_Trace_do
  pa_Trace_hand : Addr
  p_Trace_hand : PropOf K (He.ga K "Trace") "hand" pa_Trace_hand a_Trace_hand
  pa_Trace_kept : Addr
  p_Trace_kept : PropOf K (He.ga K "Trace") "kept" pa_Trace_kept a_Trace_kept
  pa_Trace_steps : Addr
  p_Trace_steps : PropOf K (He.ga K "Trace") "steps" pa_Trace_steps a_Trace_steps
  pa_Trace_backs : Addr
  p_Trace_backs : PropOf K (He.ga K "Trace") "backs" pa_Trace_backs a_Trace_backs
  i_0 : InitF K (eC K 0) a_InvalidOperations___init__ "item"
  i_2 : InitF K (eC K 2) a_InvalidText___init__ "part"
  i_3 : InitF K (eC K 3) a_CannotDo___init__ "operation"
  i_4 : InitF K (eC K 4) a_TooLarge___init__ "limit"
  i_5 : InitF K (eC K 5) a_TooDeep___init__ "rounds"
theorem scal_ii {i j : Int} : scal (.int i) (.int j) = true := rfl
theorem scal_bb {i j : Bool} : scal (.bl i) (.bl j) = true := rfl
theorem scal_ss {i j : Str} : scal (.str i) (.str j) = true := rfl
theorem scal_nn : scal .non .non = true := rfl
theorem scal_ni {j : Int} : scal .non (.int j) = true := rfl
theorem scal_in {j : Int} : scal (.int j) .non = true := rfl
theorem scal_ns {j : Str} : scal .non (.str j) = true := rfl
theorem scal_sn {j : Str} : scal (.str j) .non = true := rfl
theorem scal_nb {j : Bool} : scal .non (.bl j) = true := rfl
theorem scal_bn {j : Bool} : scal (.bl j) .non = true := rfl
theorem cxOf_K {C : CXT} {P : Program} {w : World} {K : PySem.W.Frag} {mg : Str → Option Value} {base : Heap} {N : List Str} {q : Str} {sc : Scope} {f : Addr} {cd : Value} {A : Around} {o : List Env} {s : Shared} {H : Hp} {E : XK} : (cxOf C P w K mg base N q sc f cd A o s H E).K = K := rfl
local macro_rules | `(tactic| walk_at "rd") => `(tactic| simp only [L2.start, List.map_cons, List.map_nil, List.length_cons, List.length_nil, Nat.reduceAdd, Nat.reduceSub, Nat.zero_add, List.replicate, List.cons_append, List.nil_append,
  cxOf_K, tSeq, tAsg, gName, tVar, tC, tOp, tUn, rI, rI0, rU, tCB, tCons, tNil, tIfS, StX.tStar, sDPut, tDGet, tLstRg, tTupRg, tRg1, tRg2, tTest, tB, tAnd, tOr, tNot, tAndV, tOrV, tNotV, tIf, tRet, tRetN, tDrop, tNext, tBreak, tCont, tNever, tPar, tPar3, tChain3, decide_false, decide_true, rMin3, rMax3, tAug, ipI, tChain, gTup, gTupT, tBM, tBM0, rAppend, tyV_list, rMin, rMax, gCons, gNil, tTup, tLst, tCall, tCallS, WE, tTryV, wAsV, tMkV, tMkI, tMatch, tCase, tMeth, tMake, tProp, tFld, sFld, sFldAug, tRemX, L2.rAdd, L2.rSub, gSub,
  rSetL, rIxL, rIxT, rIxLT, rIxTT, CPowC, sizeLine_eq, Nat.reduceLeDiff, gt_iff_lt, ge_iff_le, Int.reduceMod, Int.reduceDiv, atI_0, atI_1, atI_2, atI_3, atI_4, atI_5, ixN_30, ixN_31, ixN_32, upd_same, HO.lst.injEq, HO.tup.injEq, HO.ins.injEq, Int.reduceLE, Int.reduceLT, rEq, rNe, sp0, sp1, sp2, sp3, sp4, sp5, tNoPart, tPart, tSl, scal_ii, scal_bb, scal_ss, scal_nn, scal_ni, scal_in, scal_ns, scal_sn, scal_nb, scal_bn, rRep, rCat, rReprD, rReprI, rLenQ, rSlL, rSlT, rEqF, rNeF,
  List.append_nil, List.getElem?_cons_zero, List.getElem?_cons_succ, List.set_cons_zero, List.set_cons_succ, List.set_nil,
  Option.some.injEq, V.int.injEq, V.bl.injEq, V.str.injEq, V.ref.injEq, V.ty.injEq, List.cons.injEq, and_true, true_and, exists_eq_left', exists_eq_left, exists_eq_right, exists_and_left, eq_self, exists_eq, exists_eq', and_assoc,
  decide_eq_true_eq, Bool.not_eq_true', Bool.not_eq_true, decide_eq_false_iff_not, Bool.false_eq_true, if_true, if_false, ite_true, ite_false, Bool.not_true, Bool.not_false, not_true_eq_false, not_false_eq_true, Bool.true_eq_false, ↓reduceIte,
  Int.reduceToNat, Int.reducePow, Int.reduceAdd, Int.reduceMul, Int.reduceNeg, Int.reduceSub, reduceCtorEq, false_and, and_false, exists_false, false_or, or_false])
local macro_rules | `(tactic| walk_at "ar") => `(tactic| first | omega | (have hB := big_200; first | omega | (unfold CMulB; omega) | (unfold CDivB; omega) | (unfold CPowW; omega)) | decide)
theorem nox_K {X : Cx} : X.nox.K = X.K := rfl
local macro_rules | `(tactic| walk_at "rd") => `(tactic| simp only [L2.start, List.map_cons, List.map_nil, List.length_cons, List.length_nil, Nat.reduceAdd, Nat.reduceSub, Nat.zero_add, List.replicate, List.cons_append, List.nil_append,
  cxOf_K, nox_K, tMethD, tMethDS, tPropD, rEqI, tRevL, tSeq, tAsg, gName, tVar, tC, tOp, tUn, rI, rI0, rU, tCB, tCons, tNil, tIfS, StX.tStar, sDPut, tDGet, tLstRg, tTupRg, tRg1, tRg2, tTest, tB, tAnd, tOr, tNot, tAndV, tOrV, tNotV, tIf, tRet, tRetN, tDrop, tNext, tBreak, tCont, tNever, tPar, tPar3, tChain3, decide_false, decide_true, rMin3, rMax3, tAug, ipI, tChain, gTup, gTupT, tBM, tBM0, rAppend, tyV_list, rMin, rMax, gCons, gNil, tTup, tLst, tCall, tCallS, WE, tTryV, wAsV, tMkV, tMkI, tMatch, tCase, tMeth, tMake, tProp, tFld, sFld, sFldAug, tRemX, L2.rAdd, L2.rSub, gSub,
  rSetL, rIxL, rIxT, rIxLT, rIxTT, CPowC, sizeLine_eq, Nat.reduceLeDiff, gt_iff_lt, ge_iff_le, Int.reduceMod, Int.reduceDiv, atI_0, atI_1, atI_2, atI_3, atI_4, atI_5, ixN_30, ixN_31, ixN_32, upd_same, HO.lst.injEq, HO.tup.injEq, HO.ins.injEq, Int.reduceLE, Int.reduceLT, rEq, rNe, sp0, sp1, sp2, sp3, sp4, sp5, tNoPart, tPart, tSl, scal_ii, scal_bb, scal_ss, scal_nn, scal_ni, scal_in, scal_ns, scal_sn, scal_nb, scal_bn, rRep, rCat, rReprD, rReprI, rLenQ, rSlL, rSlT, rEqF, rNeF,
  List.append_nil, List.getElem?_cons_zero, List.getElem?_cons_succ, List.set_cons_zero, List.set_cons_succ, List.set_nil,
  Option.some.injEq, V.int.injEq, V.bl.injEq, V.str.injEq, V.ref.injEq, V.ty.injEq, List.cons.injEq, and_true, true_and, exists_eq_left', exists_eq_left, exists_eq_right, exists_and_left, eq_self, exists_eq, exists_eq', and_assoc,
  decide_eq_true_eq, Bool.not_eq_true', Bool.not_eq_true, decide_eq_false_iff_not, Bool.false_eq_true, if_true, if_false, ite_true, ite_false, Bool.not_true, Bool.not_false, not_true_eq_false, not_false_eq_true, Bool.true_eq_false, ↓reduceIte,
  Int.reduceToNat, Int.reducePow, Int.reduceAdd, Int.reduceMul, Int.reduceNeg, Int.reduceSub, reduceCtorEq, false_and, and_false, exists_false, false_or, or_false])
/-! ### the plan as a list, and the goes that cut a step (k22) -/
def rowL (n b : Int) : Nat → List Op
  | 0 => [.back]
  | k + 1 => .go (k + 1 : Nat) :: .back :: .take b :: rowL n b k
def opsL (n s b : Int) : List Op :=
  if h : 2 ≤ n ∧ 2 ≤ s then
    .go (hiz n s) :: ((if kp n s = 1 then [.keep] else []) ++ opsL (n - hiz n s) (s - 1) (b + hiz n s) ++ (if kp n s = 1 then [.free (b + hiz n s)] else []) ++ .take b :: opsL (hiz n s) s b)
  else rowL n b (n - 1).toNat
termination_by n.toNat
decreasing_by all_goals (have := loz_range h.1 h.2; omega)
theorem opsL_row {n s b : Int} (h : n < 2 ∨ s < 2) : opsL n s b = rowL n b (n - 1).toNat := by rw [opsL, dif_neg (by omega)]
theorem opsL_two {n s b : Int} (hn : 2 ≤ n) (hs : 2 ≤ s) : opsL n s b = .go (hiz n s) :: ((if kp n s = 1 then [.keep] else []) ++ opsL (n - hiz n s) (s - 1) (b + hiz n s) ++ (if kp n s = 1 then [.free (b + hiz n s)] else []) ++ .take b :: opsL (hiz n s) s b) := by
  rw [opsL, dif_pos ⟨hn, hs⟩]
theorem rowL_len (n b : Int) : ∀ k : Nat, ((rowL n b k).length : Int) = 3 * k + 1
  | 0 => rfl
  | k + 1 => by
    have := rowL_len n b k
    show (((rowL n b k).length + 1 + 1 + 1 : Nat) : Int) = _
    omega
theorem opsL_len : ∀ n s : Int, 1 ≤ n → 1 ≤ s → ∀ b, ((opsL n s b).length : Int) = opsN n s := by
  refine plan_ind (fun n s hn hs h b => ?_) fun n s hn hs ih1 ih2 b => ?_
  · rw [opsL_row h, rowL_len, opsN_row h]
    omega
  · have a := ih1 (b + hiz n s)
    have c := ih2 b
    have k01 := kp_01 n s
    rw [opsL_two hn hs, opsN_kp hn hs]
    simp only [List.length_cons, List.length_append]
    rcases k01 with k | k
    · rw [if_neg (by omega), if_neg (by omega), k]
      simp only [List.length_nil]
      omega
    · rw [if_pos k, if_pos k, k]
      simp only [List.length_cons, List.length_nil]
      omega
/-- goes: place, from, to; the hand before -/
def goesP : List Op → Int → Int → List (Int × Int × Int)
  | [], _, _ => []
  | .go k :: r, c, d => (c, d, d + k) :: goesP r (c + 1) (d + k)
  | .take m :: r, c, _ => goesP r (c + 1) m
  | _ :: r, c, d => goesP r (c + 1) d
def handP : List Op → Int → Int
  | [], d => d
  | .go k :: r, d => handP r (d + k)
  | .take m :: r, _ => handP r m
  | _ :: r, d => handP r d
theorem goesP_app : ∀ (l r : List Op) (c d : Int), goesP (l ++ r) c d = goesP l c d ++ goesP r (c + l.length) (handP l d)
  | [], r, c, d => by show goesP r c d = [] ++ goesP r (c + 0) d; rw [Int.add_zero]; rfl
  | o :: l, r, c, d => by
    have e : c + ((o :: l).length : Int) = c + 1 + (l.length : Int) := by rw [List.length_cons]; omega
    rw [e]
    cases o with
    | go k => exact congrArg _ (goesP_app l r (c + 1) (d + k))
    | take m => exact goesP_app l r (c + 1) m
    | keep => exact goesP_app l r (c + 1) d
    | free m => exact goesP_app l r (c + 1) d
    | back => exact goesP_app l r (c + 1) d
/-- the places of the goes that cut the step x -/
def cutP (x : Int) (g : List (Int × Int × Int)) : List Int := (g.filter fun g => decide (g.2.1 ≤ x ∧ x < g.2.2)).map fun g => g.1
def runG (g : Int × Int × Int) : List Int := (List.range g.2.1.toNat).map fun (j : Nat) => g.1 + (j : Int) * g.2.2
theorem cutP_app (x : Int) (a b : List (Int × Int × Int)) : cutP x (a ++ b) = cutP x a ++ cutP x b := by
  unfold cutP
  rw [List.filter_append, List.map_append]
theorem cutP_nil (x : Int) : cutP x [] = [] := rfl
theorem cutP_yes {x c d e : Int} {g : List (Int × Int × Int)} (h : d ≤ x ∧ x < e) : cutP x ((c, d, e) :: g) = c :: cutP x g := by
  unfold cutP
  rw [List.filter_cons_of_pos (by exact decide_eq_true h)]
  rfl
theorem cutP_no {x c d e : Int} {g : List (Int × Int × Int)} (h : ¬ (d ≤ x ∧ x < e)) : cutP x ((c, d, e) :: g) = cutP x g := by
  unfold cutP
  rw [List.filter_cons_of_neg (by rw [decide_eq_false h]; exact Bool.false_ne_true)]
theorem goes_rowL (n b c : Int) (k : Nat) : goesP (rowL n b (k + 1)) c b = (c, b, b + ((k + 1 : Nat) : Int)) :: goesP (rowL n b k) (c + 1 + 1 + 1) b := rfl
theorem row_none {n b x : Int} (h : x < b) : ∀ (k : Nat) (c : Int), cutP x (goesP (rowL n b k) c b) = []
  | 0, c => rfl
  | k + 1, c => by rw [goes_rowL, cutP_no (by omega), row_none h k]
theorem row_cut {n b x : Int} (h : b ≤ x) : ∀ (k : Nat) (c : Int), cutP x (goesP (rowL n b k) c b) = (List.range (k - (x - b).toNat)).map fun (j : Nat) => c + (j : Int) * 3
  | 0, c => by rw [Nat.zero_sub]; rfl
  | k + 1, c => by
    rw [goes_rowL]
    by_cases q : (x - b).toNat ≤ k
    · rw [cutP_yes (by omega), row_cut h k, show k + 1 - (x - b).toNat = (k - (x - b).toNat) + 1 by omega, List.range_succ_eq_map, List.map_cons, List.map_map]
      congr 1
      · omega
      · refine List.map_congr_left fun j _ => ?_
        show c + 1 + 1 + 1 + (j : Int) * 3 = c + ((j + 1 : Nat) : Int) * 3
        omega
    · rw [cutP_no (by omega), row_cut h k, show k + 1 - (x - b).toNat = 0 by omega, show k - (x - b).toNat = 0 by omega]
      rfl
/-- the goes of a plan of two parts -/
theorem goes_two {n s b c : Int} (hn : 2 ≤ n) (hs : 2 ≤ s) : goesP (opsL n s b) c b = (c, b, b + hiz n s) :: (goesP (opsL (n - hiz n s) (s - 1) (b + hiz n s)) (c + (1 + kp n s)) (b + hiz n s) ++ goesP (opsL (hiz n s) s b) (c + (2 + 2 * kp n s + opsN (n - hiz n s) (s - 1))) b) := by
  obtain ⟨l1, l2, l3⟩ := loz_range hn hs
  have len := opsL_len (n - hiz n s) (s - 1) (by omega) (by omega) (b + hiz n s)
  rw [opsL_two hn hs]
  show (c, b, b + hiz n s) :: goesP (_ ++ _) (c + 1) (b + hiz n s) = _
  rw [goesP_app, goesP_app, goesP_app]
  congr 1
  rcases kp_01 n s with k | k
  · rw [if_neg (by omega), if_neg (by omega), k]
    show ([] ++ goesP _ (c + 1 + 0) (b + hiz n s)) ++ [] ++ goesP _ (_ + 1) b = _
    rw [List.append_nil, List.nil_append]
    congr 2
    · omega
    · simp only [List.length_append, List.length_nil]
      omega
  · rw [if_pos k, if_pos k, k]
    show ([] ++ goesP _ (c + 1 + 1) (b + hiz n s)) ++ [] ++ goesP _ (_ + 1) b = _
    rw [List.append_nil, List.nil_append]
    congr 2
    · omega
    · simp only [List.length_append, List.length_cons, List.length_nil]
      omega
theorem cut_none : ∀ n s : Int, 1 ≤ n → 1 ≤ s → ∀ b c x, (x < b ∨ b + n - 1 ≤ x) → cutP x (goesP (opsL n s b) c b) = [] := by
  refine plan_ind (fun n s hn hs h b c x hx => ?_) fun n s hn hs ih1 ih2 b c x hx => ?_
  · rw [opsL_row h]
    by_cases q : x < b
    · exact row_none q _ _
    · rw [row_cut (by omega), show (n - 1).toNat - (x - b).toNat = 0 by omega]
      rfl
  · obtain ⟨l1, l2, l3⟩ := loz_range hn hs
    rw [goes_two hn hs, cutP_no (by omega), cutP_app, ih1 _ _ _ (by omega), ih2 _ _ _ (by omega)]
    rfl
theorem cut_plan : ∀ n s : Int, 1 ≤ n → 1 ≤ s → ∀ b c x, b ≤ x → x < b + n - 1 → cutP x (goesP (opsL n s b) c b) = (goesL n s (x - b) c).flatMap runG := by
  refine plan_ind (fun n s hn hs h b c x h0 h1 => ?_) fun n s hn hs ih1 ih2 b c x h0 h1 => ?_
  · rw [opsL_row h, row_cut h0, goesL_row h]
    show _ = runG (c, n - 1 - (x - b), 3) ++ []
    rw [List.append_nil]
    unfold runG
    rw [show (n - 1).toNat - (x - b).toNat = (n - 1 - (x - b)).toNat by omega]
  · obtain ⟨l1, l2, l3⟩ := loz_range hn hs
    rw [goes_two hn hs]
    by_cases q : hiz n s ≤ x - b
    · rw [cutP_no (by omega), cutP_app, ih1 _ _ _ (by omega) (by omega), cut_none _ _ (by omega) (by omega) _ _ _ (by omega), List.append_nil, goesL_two hn hs, if_pos q]
      congr 2
      omega
    · rw [cutP_yes (by omega), cutP_app, cut_none _ _ (by omega) (by omega) _ _ _ (by omega), List.nil_append, goesL_two hn hs, if_neg q, List.flatMap_cons]
      have e : runG (c, 1, 0) = [c] := by
        unfold runG
        show [c + ((0 : Nat) : Int) * 0] = [c]
        rw [Int.mul_zero, Int.add_zero]
      rw [e]
      show c :: _ = c :: _
      congr 1
      by_cases z : x - b = hiz n s - 1
      · rw [if_pos z, cut_none _ _ (by omega) (by omega) _ _ _ (by omega)]
        rfl
      · rw [if_neg z, ih2 _ _ _ (by omega) (by omega)]
        rfl
/-- the k-th of the runs -/
theorem pick_flat : ∀ (gs : List (Int × Int × Int)), (∀ g ∈ gs, 0 ≤ g.2.1) → ∀ k : Nat, pickG gs (k : Int) = (gs.flatMap runG)[k]?
  | [], _, k => rfl
  | g :: gs, h, k => by
    have h0 := h g (List.mem_cons_self ..)
    have hl : (runG g).length = g.2.1.toNat := by unfold runG; rw [List.length_map, List.length_range]
    unfold pickG
    rw [List.flatMap_cons]
    by_cases q : (k : Int) < g.2.1
    · rw [if_pos q, List.getElem?_append_left (by omega)]
      unfold runG
      rw [List.getElem?_map, List.getElem?_range (by omega)]
      rfl
    · rw [if_neg q, List.getElem?_append_right (by omega), hl, show (k : Int) - g.2.1 = ((k - g.2.1.toNat : Nat) : Int) by omega]
      exact pick_flat gs (fun g hg => h g (List.mem_cons_of_mem _ hg)) _
theorem goes_pos : ∀ n s : Int, 1 ≤ n → 1 ≤ s → ∀ x c, x ≤ n - 1 → ∀ g ∈ goesL n s x c, 0 ≤ g.2.1 := by
  refine plan_ind (fun n s hn hs h x c hx g hg => ?_) fun n s hn hs ih1 ih2 x c hx g hg => ?_
  · rw [goesL_row h] at hg
    rw [List.mem_singleton.mp hg]
    show 0 ≤ n - 1 - x
    omega
  · rw [goesL_two hn hs] at hg
    split at hg
    · exact ih1 _ _ (by omega) g hg
    · rcases List.mem_cons.mp hg with rfl | hg
      · show (0 : Int) ≤ 1
        decide
      · split at hg
        · cases hg
        · exact ih2 _ _ (by omega) g hg
/-- what the law's own list tells, and what go_at and times_done tell -/
theorem spots_at {n s x : Int} (hn : 1 ≤ n) (hs : 1 ≤ s) (h0 : 0 ≤ x) (h1 : x < n - 1) (k : Nat) : goAt n s x (k : Int) = (cutP x (goesP (opsL n s 0) 0 0))[k]? := by
  have := cut_plan n s hn hs 0 0 x h0 (by omega)
  rw [Int.sub_zero] at this
  rw [this]
  exact pick_flat _ (goes_pos n s hn hs x 0 (by omega)) k
theorem flat_len : ∀ (gs : List (Int × Int × Int)), (∀ g ∈ gs, 0 ≤ g.2.1) → ((gs.flatMap runG).length : Int) = (gs.map fun g => g.2.1).sum
  | [], _ => rfl
  | g :: gs, h => by
    have h0 := h g (List.mem_cons_self ..)
    have hl : (runG g).length = g.2.1.toNat := by unfold runG; rw [List.length_map, List.length_range]
    have ih := flat_len gs fun g hg => h g (List.mem_cons_of_mem _ hg)
    rw [List.flatMap_cons, List.length_append, List.map_cons, List.sum_cons, hl, ← ih]
    omega
theorem spots_len {n s x : Int} (hn : 1 ≤ n) (hs : 1 ≤ s) (h0 : 0 ≤ x) (h1 : x < n - 1) : ((cutP x (goesP (opsL n s 0) 0 0)).length : Int) = timesD n s x := by
  have := cut_plan n s hn hs 0 0 x h0 (by omega)
  rw [Int.sub_zero] at this
  rw [this, flat_len _ (goes_pos n s hn hs x 0 (by omega)), goes_sum n s hn hs]
/-- where the most goes are -/
theorem most_is : ∀ n s : Int, 1 ≤ n → 1 ≤ s → 2 ≤ n → ∀ b, 0 ≤ mostAt n s b - b ∧ mostAt n s b - b < n - 1 ∧ timesD n s (mostAt n s b - b) = rho n s ∧ ∀ x, 0 ≤ x → x < mostAt n s b - b → timesD n s x < rho n s := by
  refine plan_ind (fun n s hn hs h h2 b => ?_) fun n s hn hs ih1 ih2 _ b => ?_
  · have e : s = 1 := by omega
    subst e
    rw [mostAt_row h, Int.sub_self, timesD_row h, rho_slot1 hn]
    exact ⟨Int.le_refl _, by omega, by omega, fun x h0 h1 => by omega⟩
  · obtain ⟨l1, l2, l3⟩ := loz_range hn hs
    obtain ⟨r1, r2, r3⟩ := rounds_max hn hs
    have rp := rho_pos (n := n) (s := s) hn (by omega)
    have ra : 2 ≤ hiz n s → 1 ≤ rho (hiz n s) s := fun h => rho_pos h (by omega)
    have ta := times_in (hiz n s) s (by omega) (by omega)
    have lo : ∀ x, 0 ≤ x → x < hiz n s → ¬ (hiz n s > 1 ∧ rho (hiz n s) s = rho n s - 1) → ¬ (rho n s = 1 ∧ hiz n s = 1) → timesD n s x < rho n s := fun x x0 x1 c1 c2 => by
      rw [timesD_two hn hs, if_neg (by omega)]
      split
      · by_cases q : 2 ≤ hiz n s
        · have := ra q
          omega
        · omega
      · have := (ta x x0 (by omega)).2
        omega
    rw [mostAt_two hn hs]
    by_cases c1 : hiz n s > 1 ∧ rho (hiz n s) s = rho n s - 1
    · rw [if_pos c1]
      obtain ⟨m0, m1, m2, m3⟩ := ih2 (by omega) b
      refine ⟨m0, by omega, ?_, fun x x0 x1 => ?_⟩
      · rw [timesD_two hn hs, if_neg (by omega), if_neg (by omega), m2]
        omega
      · rw [timesD_two hn hs, if_neg (by omega), if_neg (by omega)]
        have := m3 x x0 x1
        omega
    · rw [if_neg c1]
      by_cases c2 : rho n s = 1 ∧ hiz n s = 1
      · rw [if_pos c2, Int.sub_self]
        refine ⟨Int.le_refl _, by omega, ?_, fun x x0 x1 => by omega⟩
        rw [timesD_two hn hs, if_neg (by omega), if_pos (by omega)]
        omega
      · rw [if_neg c2]
        have rr := most_rest hn hs c1 c2
        have n2 : 2 ≤ n - hiz n s := Classical.byContradiction fun q => by
          rw [show n - hiz n s = 1 by omega, rho_one (by omega)] at rr
          omega
        obtain ⟨m0, m1, m2, m3⟩ := ih1 n2 (b + hiz n s)
        refine ⟨by omega, by omega, ?_, fun x x0 x1 => ?_⟩
        · rw [timesD_two hn hs, if_pos (by omega), show mostAt (n - hiz n s) (s - 1) (b + hiz n s) - b - hiz n s = mostAt (n - hiz n s) (s - 1) (b + hiz n s) - (b + hiz n s) by omega, m2, rr]
        · by_cases q : x < hiz n s
          · exact lo x x0 q c1 c2
          · rw [timesD_two hn hs, if_pos (by omega), ← rr]
            exact m3 _ (by omega) (by omega)
/-! the plan as a list, by numbers -/
theorem rowL_at (n b : Int) : ∀ (k i : Nat), i < 3 * k + 1 → (rowL n b k)[i]? = some (rowOp b ((k : Int) + 1) (i : Int))
  | 0, i, h => by
    have : i = 0 := by omega
    subst this
    show some Op.back = _
    unfold rowOp
    rw [if_pos (.inl (by omega))]
  | k + 1, 0, _ => by
    show some (Op.go _) = _
    unfold rowOp
    rw [if_neg (by omega), if_pos (by decide)]
    congr 2
    omega
  | k + 1, 1, _ => by
    show some Op.back = _
    unfold rowOp
    rw [if_pos (.inr (by decide))]
  | k + 1, 2, _ => by
    show some (Op.take b) = _
    unfold rowOp
    rw [if_neg (by omega), if_neg (by decide)]
  | k + 1, i + 3, h => by
    have ih := rowL_at n b k i (by omega)
    show (rowL n b k)[i]? = _
    rw [ih]
    unfold rowOp
    rw [show ((i + 3 : Nat) : Int) / 3 = (i : Int) / 3 + 1 by omega, show ((i + 3 : Nat) : Int) % 3 = (i : Int) % 3 by omega]
    congr 1
    have ek : ((k + 1 : Nat) : Int) = (k : Int) + 1 := by omega
    by_cases h1 : (i : Int) / 3 = (k : Int) + 1 - 1 ∨ (i : Int) % 3 = 1
    · have h1' : (i : Int) / 3 + 1 = ((k + 1 : Nat) : Int) + 1 - 1 ∨ (i : Int) % 3 = 1 := by omega
      rw [if_pos h1, if_pos h1']
    · have h1' : ¬ ((i : Int) / 3 + 1 = ((k + 1 : Nat) : Int) + 1 - 1 ∨ (i : Int) % 3 = 1) := by omega
      rw [if_neg h1, if_neg h1']
      by_cases h2 : (i : Int) % 3 = 0
      · rw [if_pos h2, if_pos h2]
        congr 1
        omega
      · rw [if_neg h2, if_neg h2]
theorem opsL_at : ∀ n s : Int, 1 ≤ n → 1 ≤ s → ∀ (b : Int) (i : Nat), (i : Int) < opsN n s → (opsL n s b)[i]? = some (opAt n s b i) := by
  refine plan_ind (fun n s hn hs h b i hi => ?_) fun n s hn hs ih1 ih2 b i hi => ?_
  · rw [opsN_row h] at hi
    rw [opsL_row h, opAt_row h, rowL_at _ _ _ _ (by omega), show (((n - 1).toNat : Nat) : Int) + 1 = n by omega]
  · obtain ⟨l1, l2, l3⟩ := loz_range hn hs
    have len := opsL_len (n - hiz n s) (s - 1) (by omega) (by omega) (b + hiz n s)
    have ek := opsN_kp hn hs
    have k01 := kp_01 n s
    have og1 := opsN_ge (n - hiz n s) (s - 1) (by omega) (by omega)
    rw [opsL_two hn hs, opAt_two hn hs]
    match i with
    | 0 => rfl
    | i + 1 =>
      rw [List.getElem?_cons_succ, if_neg (show ¬ (((i + 1 : Nat) : Int) = 0) by omega)]
      rcases k01 with k | k
      · have hk : ¬ kp n s = 1 := by omega
        rw [if_neg hk, if_neg hk, List.nil_append, List.append_nil, if_neg (show ¬ (((i + 1 : Nat) : Int) = 1 ∧ kp n s = 1) by omega)]
        by_cases h1 : i < (opsL (n - hiz n s) (s - 1) (b + hiz n s)).length
        · rw [List.getElem?_append_left h1, ih1 _ _ (by omega), if_pos (show ((i + 1 : Nat) : Int) - (1 + kp n s) < opsN (n - hiz n s) (s - 1) by omega)]
          congr 2
          omega
        · rw [List.getElem?_append_right (by omega), if_neg (show ¬ (((i + 1 : Nat) : Int) - (1 + kp n s) < opsN (n - hiz n s) (s - 1)) by omega), if_neg (show ¬ (((i + 1 : Nat) : Int) - (1 + kp n s) = opsN (n - hiz n s) (s - 1) ∧ kp n s = 1) by omega)]
          by_cases h2 : i = (opsL (n - hiz n s) (s - 1) (b + hiz n s)).length
          · rw [if_pos (show ((i + 1 : Nat) : Int) - (1 + kp n s) = opsN (n - hiz n s) (s - 1) + kp n s by omega), h2, Nat.sub_self]
            rfl
          · obtain ⟨j, hj⟩ : ∃ j, i - (opsL (n - hiz n s) (s - 1) (b + hiz n s)).length = j + 1 := ⟨i - (opsL (n - hiz n s) (s - 1) (b + hiz n s)).length - 1, by omega⟩
            rw [if_neg (show ¬ (((i + 1 : Nat) : Int) - (1 + kp n s) = opsN (n - hiz n s) (s - 1) + kp n s) by omega), hj, List.getElem?_cons_succ, ih2 _ _ (by omega)]
            congr 2
            omega
      · rw [if_pos k, if_pos k]
        match i with
        | 0 => rw [if_pos ⟨rfl, k⟩]; rfl
        | i + 1 =>
          have ei : (((i + 1 : Nat) + 1 : Nat) : Int) - (1 + kp n s) = (i : Int) := by omega
          rw [if_neg (show ¬ (((i + 1 + 1 : Nat) : Int) = 1 ∧ kp n s = 1) by omega), ei]
          show ((opsL (n - hiz n s) (s - 1) (b + hiz n s) ++ [.free (b + hiz n s)]) ++ .take b :: opsL (hiz n s) s b)[i]? = _
          rw [List.append_assoc]
          by_cases h1 : i < (opsL (n - hiz n s) (s - 1) (b + hiz n s)).length
          · rw [List.getElem?_append_left h1, ih1 _ _ (by omega), if_pos (show (i : Int) < opsN (n - hiz n s) (s - 1) by omega)]
          · rw [List.getElem?_append_right (by omega), if_neg (show ¬ ((i : Int) < opsN (n - hiz n s) (s - 1)) by omega)]
            by_cases h2 : i = (opsL (n - hiz n s) (s - 1) (b + hiz n s)).length
            · rw [if_pos (show (i : Int) = opsN (n - hiz n s) (s - 1) ∧ kp n s = 1 from ⟨by omega, k⟩), h2, Nat.sub_self]
              rfl
            · rw [if_neg (show ¬ ((i : Int) = opsN (n - hiz n s) (s - 1) ∧ kp n s = 1) by omega)]
              by_cases h3 : i = (opsL (n - hiz n s) (s - 1) (b + hiz n s)).length + 1
              · rw [if_pos (show (i : Int) = opsN (n - hiz n s) (s - 1) + kp n s by omega), h3, show (opsL (n - hiz n s) (s - 1) (b + hiz n s)).length + 1 - (opsL (n - hiz n s) (s - 1) (b + hiz n s)).length = 1 by omega]
                rfl
              · obtain ⟨j, hj⟩ : ∃ j, i - (opsL (n - hiz n s) (s - 1) (b + hiz n s)).length = j + 2 := ⟨i - (opsL (n - hiz n s) (s - 1) (b + hiz n s)).length - 2, by omega⟩
                rw [if_neg (show ¬ ((i : Int) = opsN (n - hiz n s) (s - 1) + kp n s) by omega), hj]
                show (opsL (hiz n s) s b)[j]? = _
                rw [ih2 _ _ (by omega)]
                congr 2
                omega
theorem opsL_all {n s : Int} (hn : 1 ≤ n) (hs : 1 ≤ s) (b : Int) : ((List.range (opsL n s b).length).map fun (i : Nat) => opAt n s b (i : Int)) = opsL n s b := by
  have hl := opsL_len n s hn hs b
  refine List.ext_getElem? fun i => ?_
  rw [List.getElem?_map]
  by_cases h : i < (opsL n s b).length
  · rw [List.getElem?_range h, opsL_at n s hn hs b i (by omega)]
    rfl
  · rw [List.getElem?_eq_none (by rw [List.length_range]; omega), List.getElem?_eq_none (by omega)]
    rfl
theorem opsL_num : ∀ n s : Int, 1 ≤ n → 1 ≤ s → ∀ b, 0 ≤ b → ∀ o ∈ opsL n s b, 0 ≤ o.num ∧ o.num ≤ b + n := by
  refine plan_ind (fun n s hn hs h b hb o ho => ?_) fun n s hn hs ih1 ih2 b hb o ho => ?_
  · rw [opsL_row h] at ho
    have go : ∀ k : Nat, (k : Int) ≤ n - 1 → ∀ o ∈ rowL n b k, 0 ≤ o.num ∧ o.num ≤ b + n := by
      intro k
      induction k with
      | zero => intro _ o ho; rw [List.mem_singleton.mp ho]; show 0 ≤ (0 : Int) ∧ (0 : Int) ≤ b + n; omega
      | succ k ih =>
        intro hk o ho
        rcases List.mem_cons.mp ho with rfl | ho
        · show 0 ≤ ((k + 1 : Nat) : Int) ∧ ((k + 1 : Nat) : Int) ≤ b + n; omega
        rcases List.mem_cons.mp ho with rfl | ho
        · show 0 ≤ (0 : Int) ∧ (0 : Int) ≤ b + n; omega
        rcases List.mem_cons.mp ho with rfl | ho
        · show 0 ≤ b ∧ b ≤ b + n; omega
        exact ih (by omega) o ho
    exact go _ (by omega) o ho
  · obtain ⟨l1, l2, l3⟩ := loz_range hn hs
    rw [opsL_two hn hs] at ho
    rcases List.mem_cons.mp ho with rfl | ho
    · show 0 ≤ hiz n s ∧ hiz n s ≤ b + n; omega
    rcases List.mem_append.mp ho with ho | ho
    · rcases List.mem_append.mp ho with ho | ho
      · rcases List.mem_append.mp ho with ho | ho
        · split at ho
          · rw [List.mem_singleton.mp ho]; show 0 ≤ (0 : Int) ∧ (0 : Int) ≤ b + n; omega
          · cases ho
        · have := ih1 _ (by omega) o ho; omega
      · split at ho
        · rw [List.mem_singleton.mp ho]; show 0 ≤ b + hiz n s ∧ b + hiz n s ≤ b + n; omega
        · cases ho
    · rcases List.mem_cons.mp ho with rfl | ho
      · show 0 ≤ b ∧ b ≤ b + n; omega
      · have := ih2 b hb o ho; omega
/-! ### states of sessions and lists -/
structure TSt where
  n : Int
  s : Int
  hand : Int
  kept : List Int
  steps : Int
  backs : Int
def TSt.can (t : TSt) : Op → Bool
  | .go k => decide (t.hand + k < t.n)
  | .keep => decide (t.hand ∉ t.kept) && decide ((t.kept.length : Int) < t.s)
  | .back => decide (t.backs < t.n) && decide (t.hand = t.n - 1 - t.backs)
  | .take m => decide (m ∈ t.kept)
  | .free m => decide (m ∈ t.kept)
def TSt.did (t : TSt) : Op → TSt
  | .go k => { t with hand := t.hand + k, steps := t.steps + k }
  | .keep => { t with kept := t.kept ++ [t.hand] }
  | .back => { t with backs := t.backs + 1 }
  | .take m => { t with hand := m }
  | .free m => { t with kept := t.kept.erase m }
/-! ### lists of operations, done -/
def TSt.run : TSt → List Op → TSt
  | t, [] => t
  | t, o :: os => TSt.run (t.did o) os
def TSt.ok : TSt → List Op → Prop
  | _, [] => True
  | t, o :: os => t.can o = true ∧ TSt.ok (t.did o) os
theorem run_app : ∀ (a b : List Op) (t : TSt), t.run (a ++ b) = (t.run a).run b
  | [], _, _ => rfl
  | o :: a, b, t => run_app a b (t.did o)
theorem ok_app : ∀ (a b : List Op) (t : TSt), t.ok (a ++ b) ↔ t.ok a ∧ (t.run a).ok b
  | [], _, _ => ⟨fun h => ⟨trivial, h⟩, fun h => h.2⟩
  | o :: a, b, t => by
    show (_ ∧ TSt.ok (t.did o) (a ++ b)) ↔ ((_ ∧ TSt.ok (t.did o) a) ∧ _)
    rw [ok_app a b (t.did o), and_assoc]
    exact Iff.rfl
theorem run_succ {t : TSt} {os : List Op} {i : Nat} {o : Op} (h : os[i]? = some o) : t.run (os.take (i + 1)) = (t.run (os.take i)).did o := by
  obtain ⟨hl, e⟩ := List.getElem?_eq_some_iff.mp h
  rw [List.take_succ_eq_append_getElem hl, run_app, e]
  rfl
theorem ok_at : ∀ {os : List Op} {t : TSt} {i : Nat} {o : Op}, t.ok os → os[i]? = some o → (t.run (os.take i)).can o = true
  | [], t, i, o, _, h => by simp at h
  | a :: os, t, 0, o, k, h => by simp at h; subst h; exact k.1
  | a :: os, t, i + 1, o, k, h => by simp at h; exact ok_at (os := os) k.2 h
theorem run_n : ∀ {os : List Op} {t : TSt}, (t.run os).n = t.n ∧ (t.run os).s = t.s
  | [], t => ⟨rfl, rfl⟩
  | o :: os, t => by
    have h := run_n (os := os) (t := t.did o)
    cases o <;> exact h
/-! where the backs are -/
def But (R : Addr → Prop) (H H' : Hp) : Prop := ∀ b o, ¬ R b → H b = some o → H' b = some o
theorem But.refl {R : Addr → Prop} {H : Hp} : But R H H := fun _ _ _ h => h
theorem But.trans {R : Addr → Prop} {H H1 H2 : Hp} (a : But R H H1) (b : But R H1 H2) : But R H H2 := fun c o n h => b c o n (a c o n h)
theorem But.ex {R : Addr → Prop} {H H1 : Hp} (e : Ex H H1) : But R H H1 := fun c o _ h => e c o h
theorem But.up {R R' : Addr → Prop} {H H1 : Hp} (a : But R H H1) (h : ∀ b, R b → R' b) : But R' H H1 := fun c o n q => a c o (fun z => n (h c z)) q
theorem But.upd {R : Addr → Prop} {H : Hp} {a : Addr} {o : HO} (h : R a) : But R H (upd H a o) := fun c u n q => by rw [upd_ne (fun z => n (by rw [z]; exact h))]; exact q
structure MSt where
  hand : Int
  kept : List Int
  steps : Int
  backs : Int
def MSt.go (t : MSt) (b k : Int) : MSt := { t with hand := b + k, steps := t.steps + k }
def MSt.keep (t : MSt) (b : Int) : MSt := { t with kept := t.kept ++ [b] }
def MSt.take (t : MSt) (b : Int) : MSt := { t with hand := b }
def MSt.passP (t : MSt) (b n s : Int) : MSt := { t with hand := b, steps := t.steps + tz n s, backs := t.backs + n }
def MSt.passR (t : MSt) (b n i : Int) : MSt :=
  { t with hand := if i % 3 > 0 then b + (n - 1 - i / 3) else b, steps := t.steps + (i / 3 * (n - 1) - i / 3 * (i / 3 - 1) / 2) + (if i % 3 > 0 then n - 1 - i / 3 else 0), backs := t.backs + (i / 3 + if i % 3 = 2 then 1 else 0) }
abbrev TSt.past (t : TSt) (b n s : Int) : TSt := { t with hand := b, steps := t.steps + tz n s, backs := t.backs + n }
def tri : Nat → Int
  | 0 => 0
  | k + 1 => ((k + 1 : Nat) : Int) + tri k
theorem tri_2 : ∀ k : Nat, 2 * tri k = (k : Int) * ((k : Int) + 1)
  | 0 => rfl
  | k + 1 => by
    have ih := tri_2 k
    show 2 * (((k + 1 : Nat) : Int) + tri k) = _
    rw [Int.mul_add, ih, show ((k + 1 : Nat) : Int) = (k : Int) + 1 by omega, ← Int.add_mul, Int.mul_comm]
    congr 1
    omega
theorem tri_tz {n s : Int} (hn : 1 ≤ n) (hs : 1 ≤ s) (h : n < 2 ∨ s < 2) : tri (n - 1).toNat = tz n s := by
  by_cases h1 : n = 1
  · subst h1
    rw [tz_one hs]
    rfl
  · have e : s = 1 := by omega
    subst e
    have a := tz_slot1 hn
    have b := tri_2 (n - 1).toNat
    rw [show (((n - 1).toNat : Nat) : Int) = n - 1 by omega, show n - 1 + 1 = n by omega, Int.mul_comm (n - 1) n] at b
    omega
theorem tst_ext {t u : TSt} (h1 : t.n = u.n) (h2 : t.s = u.s) (h3 : t.hand = u.hand) (h4 : t.kept = u.kept) (h5 : t.steps = u.steps) (h6 : t.backs = u.backs) : t = u := by
  cases t
  cases u
  simp only at h1 h2 h3 h4 h5 h6
  subst h1 h2 h3 h4 h5 h6
  rfl
theorem run_row (n b : Int) : ∀ (k : Nat) (t : TSt), t.hand = b → t.run (rowL n b k) = { t with hand := b, steps := t.steps + tri k, backs := t.backs + ((k : Int) + 1) }
  | 0, t, h => by
    show ({ t with backs := t.backs + 1 } : TSt) = _
    refine tst_ext rfl rfl h rfl ?_ ?_
    · show t.steps = t.steps + 0; omega
    · show t.backs + 1 = t.backs + (((0 : Nat) : Int) + 1); omega
  | k + 1, t, h => by
    show (((t.did (.go (k + 1 : Nat))).did .back).did (.take b)).run (rowL n b k) = _
    rw [run_row n b k _ rfl]
    refine tst_ext rfl rfl rfl rfl ?_ ?_
    · show t.steps + ((k + 1 : Nat) : Int) + tri k = t.steps + (((k + 1 : Nat) : Int) + tri k); omega
    · show t.backs + 1 + ((k : Int) + 1) = t.backs + (((k + 1 : Nat) : Int) + 1); omega
theorem best_sum {n s : Int} (hn : 2 ≤ n) (hs : 2 ≤ s) : hiz n s + tz (n - hiz n s) (s - 1) + tz (hiz n s) s = tz n s := by
  obtain ⟨l1, l2, l3⟩ := loz_range hn hs
  exact tz_best hs (by omega) l3 (hiz_best hn hs)
theorem erase_last {l : List Int} {x : Int} (h : x ∉ l) : (l ++ [x]).erase x = l := by
  rw [List.erase_append_right _ h]
  simp
theorem run_plan : ∀ n s : Int, 1 ≤ n → 1 ≤ s → ∀ (b : Int) (t : TSt), t.hand = b → (∀ k ∈ t.kept, k ≤ b) → t.run (opsL n s b) = t.past b n s := by
  refine plan_ind (fun n s hn hs h b t ht hk => ?_) fun n s hn hs ih1 ih2 b t ht hk => ?_
  · rw [opsL_row h, run_row _ _ _ _ ht, tri_tz hn hs h]
    refine tst_ext rfl rfl rfl rfl rfl ?_
    show t.backs + ((((n - 1).toNat : Nat) : Int) + 1) = t.backs + n
    omega
  · obtain ⟨l1, l2, l3⟩ := loz_range hn hs
    have bs := best_sum hn hs
    rw [opsL_two hn hs]
    show (t.did (.go (hiz n s))).run _ = _
    have t1h : (t.did (.go (hiz n s))).hand = b + hiz n s := by show t.hand + hiz n s = _; rw [ht]
    rw [run_app, run_app, run_app]
    rcases kp_01 n s with k | k
    · have k' : ¬ kp n s = 1 := by omega
      rw [if_neg k', if_neg k']
      show ((((t.did (.go (hiz n s))).run (opsL (n - hiz n s) (s - 1) (b + hiz n s))).did (.take b)).run (opsL (hiz n s) s b)) = _
      rw [ih1 _ _ t1h (fun k hk' => by have := hk k hk'; omega), ih2 b (((t.did (.go (hiz n s))).past (b + hiz n s) (n - hiz n s) (s - 1)).did (.take b)) rfl hk]
      refine tst_ext rfl rfl rfl rfl ?_ ?_
      · show t.steps + hiz n s + tz (n - hiz n s) (s - 1) + tz (hiz n s) s = t.steps + tz n s; omega
      · show t.backs + (n - hiz n s) + hiz n s = t.backs + n; omega
    · rw [if_pos k, if_pos k]
      show ((((((t.did (.go (hiz n s))).did .keep).run (opsL (n - hiz n s) (s - 1) (b + hiz n s))).did (.free (b + hiz n s))).did (.take b)).run (opsL (hiz n s) s b)) = _
      have nk : b + hiz n s ∉ t.kept := fun z => by have := hk _ z; omega
      rw [ih1 _ ((t.did (.go (hiz n s))).did .keep) t1h (fun k hk' => by
        have hk2 : k ∈ t.kept ++ [t.hand + hiz n s] := hk'
        rcases List.mem_append.mp hk2 with h | h
        · have := hk k h; omega
        · rw [List.mem_singleton.mp h, ht]; omega)]
      have ek : ((((t.did (.go (hiz n s))).did .keep).past (b + hiz n s) (n - hiz n s) (s - 1)).did (.free (b + hiz n s))).kept = t.kept := by
        show (t.kept ++ [t.hand + hiz n s]).erase (b + hiz n s) = t.kept
        rw [ht]
        exact erase_last nk
      rw [ih2 b _ rfl (by
        intro k hk'
        have hk2 : k ∈ ((((t.did (.go (hiz n s))).did .keep).past (b + hiz n s) (n - hiz n s) (s - 1)).did (.free (b + hiz n s))).kept := hk'
        rw [ek] at hk2
        exact hk k hk2)]
      refine tst_ext rfl rfl rfl ek ?_ ?_
      · show t.steps + hiz n s + tz (n - hiz n s) (s - 1) + tz (hiz n s) s = t.steps + tz n s; omega
      · show t.backs + (n - hiz n s) + hiz n s = t.backs + n; omega
theorem ok_row (n b : Int) (hb : 0 ≤ b) : ∀ (k : Nat) (t : TSt), t.hand = b → (k = 0 ∨ b ∈ t.kept) → 0 ≤ t.backs → t.n = b + ((k : Int) + 1) + t.backs → t.ok (rowL n b k)
  | 0, t, h, _, h3, h4 => by
    refine ⟨?_, trivial⟩
    show (decide (t.backs < t.n) && decide (t.hand = t.n - 1 - t.backs)) = true
    rw [decide_eq_true (by omega), decide_eq_true (by omega)]
    rfl
  | k + 1, t, h, h2, h3, h4 => by
    have h2' : b ∈ t.kept := h2.resolve_left (by omega)
    refine ⟨?_, ?_, ?_, ok_row n b hb k _ rfl (.inr h2') (by show 0 ≤ t.backs + 1; omega) (by show t.n = b + ((k : Int) + 1) + (t.backs + 1); omega)⟩
    · exact decide_eq_true (by show t.hand + ((k + 1 : Nat) : Int) < t.n; omega)
    · show (decide (t.backs < t.n) && decide (t.hand + ((k + 1 : Nat) : Int) = t.n - 1 - t.backs)) = true
      rw [decide_eq_true (by omega), decide_eq_true (by omega)]
      rfl
    · exact decide_eq_true h2'
theorem ok_plan : ∀ n s : Int, 1 ≤ n → 1 ≤ s → ∀ (b : Int) (t : TSt), 0 ≤ b → t.hand = b → (n = 1 ∨ b ∈ t.kept) → (∀ k ∈ t.kept, k ≤ b) → (t.kept.length : Int) + (s - 1) ≤ t.s → 0 ≤ t.backs → t.n = b + n + t.backs → t.ok (opsL n s b) := by
  refine plan_ind (fun n s hn hs h b t hb ht hm hk hl hz hN => ?_) fun n s hn hs ih1 ih2 b t hb ht hm hk hl hz hN => ?_
  · rw [opsL_row h]
    exact ok_row n b hb _ t ht (hm.imp (fun h => by omega) id) hz (by omega)
  · obtain ⟨l1, l2, l3⟩ := loz_range hn hs
    have hm' : b ∈ t.kept := hm.resolve_left (by omega)
    rw [opsL_two hn hs]
    have t1h : (t.did (.go (hiz n s))).hand = b + hiz n s := by show t.hand + hiz n s = _; rw [ht]
    refine ⟨decide_eq_true (by omega), ?_⟩
    rw [ok_app, ok_app, ok_app]
    rcases kp_01 n s with k | k
    · have k' : ¬ kp n s = 1 := by omega
      have n1 : n - hiz n s = 1 := by unfold kp at k; split at k <;> omega
      rw [if_neg k', if_neg k']
      have g1 := ih1 (b + hiz n s) (t.did (.go (hiz n s))) (by omega) t1h (.inl n1) (fun k hk' => by have := hk k hk'; omega) (by show (t.kept.length : Int) + (s - 1 - 1) ≤ t.s; omega) hz (by show t.n = b + hiz n s + (n - hiz n s) + t.backs; omega)
      have r1 := run_plan (n - hiz n s) (s - 1) (by omega) (by omega) (b + hiz n s) (t.did (.go (hiz n s))) t1h (fun k hk' => by have := hk k hk'; omega)
      refine ⟨⟨⟨trivial, g1⟩, trivial⟩, ?_⟩
      rw [List.nil_append, List.append_nil]
      show TSt.can ((t.did (.go (hiz n s))).run (opsL (n - hiz n s) (s - 1) (b + hiz n s))) (.take b) = true ∧ TSt.ok (((t.did (.go (hiz n s))).run (opsL (n - hiz n s) (s - 1) (b + hiz n s))).did (.take b)) (opsL (hiz n s) s b)
      rw [r1]
      exact ⟨decide_eq_true hm', ih2 b _ hb rfl (.inr hm') hk hl (by show 0 ≤ t.backs + (n - hiz n s); omega) (by show t.n = b + hiz n s + (t.backs + (n - hiz n s)); omega)⟩
    · rw [if_pos k, if_pos k]
      have nk : b + hiz n s ∉ t.kept := fun z => by have := hk _ z; omega
      have c1 : ∀ k ∈ ((t.did (.go (hiz n s))).did .keep).kept, k ≤ b + hiz n s := fun k hk' => by
        have hk2 : k ∈ t.kept ++ [t.hand + hiz n s] := hk'
        rcases List.mem_append.mp hk2 with h | h
        · have := hk k h; omega
        · rw [List.mem_singleton.mp h, ht]; omega
      have in1 : b + hiz n s ∈ ((t.did (.go (hiz n s))).did .keep).kept := by
        show b + hiz n s ∈ t.kept ++ [t.hand + hiz n s]
        rw [ht]
        exact List.mem_append_right _ (List.mem_singleton.mpr rfl)
      have g1 := ih1 (b + hiz n s) ((t.did (.go (hiz n s))).did .keep) (by omega) t1h (.inr in1) c1 (by show ((t.kept ++ [t.hand + hiz n s]).length : Int) + (s - 1 - 1) ≤ t.s; rw [List.length_append]; show ((t.kept.length + 1 : Nat) : Int) + (s - 1 - 1) ≤ t.s; omega) hz (by show t.n = b + hiz n s + (n - hiz n s) + t.backs; omega)
      have r1 := run_plan (n - hiz n s) (s - 1) (by omega) (by omega) (b + hiz n s) ((t.did (.go (hiz n s))).did .keep) t1h c1
      have ek : ((((t.did (.go (hiz n s))).did .keep).past (b + hiz n s) (n - hiz n s) (s - 1)).did (.free (b + hiz n s))).kept = t.kept := by
        show (t.kept ++ [t.hand + hiz n s]).erase (b + hiz n s) = t.kept
        rw [ht]
        exact erase_last nk
      refine ⟨⟨⟨⟨?_, trivial⟩, g1⟩, ?_⟩, ?_⟩
      · show (decide (t.hand + hiz n s ∉ t.kept) && decide ((t.kept.length : Int) < t.s)) = true
        rw [ht, decide_eq_true nk, decide_eq_true (by omega)]
        rfl
      · show TSt.can (((t.did (.go (hiz n s))).did .keep).run (opsL (n - hiz n s) (s - 1) (b + hiz n s))) (.free (b + hiz n s)) = true ∧ True
        rw [r1]
        exact ⟨decide_eq_true in1, trivial⟩
      · rw [run_app, run_app]
        show TSt.can ((((t.did (.go (hiz n s))).did .keep).run (opsL (n - hiz n s) (s - 1) (b + hiz n s))).did (.free (b + hiz n s))) (.take b) = true ∧ TSt.ok (((((t.did (.go (hiz n s))).did .keep).run (opsL (n - hiz n s) (s - 1) (b + hiz n s))).did (.free (b + hiz n s))).did (.take b)) (opsL (hiz n s) s b)
        rw [r1]
        have hb2 : b ∈ ((((t.did (.go (hiz n s))).did .keep).past (b + hiz n s) (n - hiz n s) (s - 1)).did (.free (b + hiz n s))).kept := by rw [ek]; exact hm'
        refine ⟨decide_eq_true hb2, ih2 b _ hb rfl (.inr hb2) (fun k hk' => ?_) ?_ (by show 0 ≤ t.backs + (n - hiz n s); omega) (by show t.n = b + hiz n s + (t.backs + (n - hiz n s)); omega)⟩
        · have hk2 : k ∈ ((((t.did (.go (hiz n s))).did .keep).past (b + hiz n s) (n - hiz n s) (s - 1)).did (.free (b + hiz n s))).kept := hk'
          rw [ek] at hk2
          exact hk k hk2
        · show ((((((t.did (.go (hiz n s))).did .keep).past (b + hiz n s) (n - hiz n s) (s - 1)).did (.free (b + hiz n s))).kept.length : Nat) : Int) + (s - 1) ≤ t.s
          rw [ek]
          exact hl
section
variable {P : Program} {w : World} {K : PySem.W.Frag} {mg : Str → Option Value} {base : Heap}
/-! ### checks -/
def sp_is_int (K : PySem.W.Frag) : Sp := sp1 fun a H Q _ => ∃ o, IntOr K H a o ∧ Q (.bl o.isSome) H
theorem sc_is_int : FnScope ["value"] ["value"] (defScope s_is_int) := ⟨rfl, rfl, rfl, by decide +kernel, rfl, by decide +kernel, by decide +kernel⟩
theorem ok_is_int (T : Txt P w K mg base) : FnOk P w K mg base (L2.CX P w) 1 T.a_is_int T.fd_is_int ["value"] (sp_is_int K) := by
  refine FunD.ok T.F_is_int sc_is_int (fun vs H Q E h => ar1 h) (fun cdv A fr s H vs Q E hr h => ⟨_, PSs.nox (pss_one (ps_ret (pe_and (pe_callB (r := rIsi K) call_isi (by rfl) T.n_isinstance (by decide +kernel) (pa_cons (pv 0) (pa_cons (pe_bltn (v := .ty "int") (by rfl) T.n_int (by decide +kernel) rfl) pa_nil))) (pe_one (pe_not (pe_callB (r := rIsi K) call_isi (by rfl) T.n_isinstance (by decide +kernel) (pa_cons (pv 0) (pa_cons (pe_bltn (v := .ty "bool") (by rfl) T.n_bool (by decide +kernel) rfl) pa_nil)))))))), ?_⟩)
  obtain ⟨_, rfl, o, h, q⟩ := h
  walk_at "rd"
  cases o with
  | some n =>
    cases h
    refine ⟨.int n, .ty "int", .type "int", .type "int", true, rfl, .ty _, .base (.int _), kit_ty kit_int_int, true, rfl, iteT ?_⟩
    exact ⟨.int n, .ty "bool", .type "int", .type "bool", false, rfl, .ty _, .base (.int _), kit_ty kit_int_bool, false, rfl, q⟩
  | none =>
    obtain ⟨t, b1, b2, ty, k1, k2, e⟩ := h
    refine ⟨_, .ty "int", .type t, .type "int", b1, rfl, .ty _, ty, kit_ty k1, b1, rfl, ?_⟩
    cases b1 with
    | false => exact iteF q
    | true =>
      refine iteT ⟨_, .ty "bool", .type t, .type "bool", b2, rfl, .ty _, ty, kit_ty k2, b2, rfl, ?_⟩
      have e2 : (!b2) = false := by simpa using e
      rw [e2]
      exact q
def sp_is_whole (K : PySem.W.Frag) : Sp := sp3 fun a b c H Q _ => ∃ (o : Option Int) (lo hi : Int), IntOr K H a o ∧ b = .int lo ∧ c = .int hi ∧ Q (.bl (whole o lo hi)) H
theorem sc_is_whole : FnScope ["value", "low", "high"] ["value", "low", "high"] (defScope s_is_whole) := ⟨rfl, rfl, rfl, by decide +kernel, rfl, by decide +kernel, by decide +kernel⟩
theorem ok_is_whole (T : Txt P w K mg base) : FnOk P w K mg base (L2.CX P w) 2 T.a_is_whole T.fd_is_whole ["value", "low", "high"] (sp_is_whole K) := by
  refine FunD.ok T.F_is_whole sc_is_whole (fun vs H Q E h => ar3 h) (fun cdv A fr s H vs Q E hr h => ⟨_, PSs.nox (pss_one (ps_ret (pe_and (pe_call (ok_is_int T) hr (by rfl) T.g_is_int T.F_is_int.kp T.b_is_int .nil passL (pa_cons (pv 0) pa_nil)) (pe_one (pe_chain op_le op_le (pv 1) (pv 0) (pv 2)))))), ?_⟩)
  obtain ⟨_, _, _, rfl, o, lo, hi, h, rfl, rfl, q⟩ := h
  walk_at "rd"
  unfold sp_is_int
  walk_at "rd"
  refine ⟨o, h, ?_⟩
  cases o with
  | none => exact q
  | some n =>
    cases h
    have e : whole (some n) lo hi = (decide (lo ≤ n) && decide (n ≤ hi)) := by unfold whole; simp
    rw [e] at q
    simp only [Option.isSome_some]
    walk_at "rd"
    refine ite2 (fun h => ?_) (fun h => ?_)
    · rw [decide_eq_true h, Bool.true_and] at q
      exact q
    · rw [decide_eq_false h, Bool.false_and] at q
      exact q
theorem sc_InvalidOperations___init__ : FnScope ["self", "item"] ["self", "item"] (defScope s_InvalidOperations___init__) := ⟨rfl, rfl, rfl, by decide +kernel, rfl, by decide +kernel, by decide +kernel⟩
theorem ok_InvalidOperations___init__ (T : Txt P w K mg base) : FnOk P w K mg base (L2.CX P w) 1 T.a_InvalidOperations___init__ T.fd_InvalidOperations___init__ ["self", "item"] (spIn K "item") := by
  refine FunD.ok T.F_InvalidOperations___init__ sc_InvalidOperations___init__ (spIn_len rfl) (fun cdv A fr s H vs Q E hr h => ⟨_, (pss_one (ps_ost (pv 0) (pv 1))), ?_⟩)
  obtain ⟨a, C, v, rfl, ox, no, ha, q⟩ := h
  exact ⟨_, rfl, _, rfl, a, C, rfl, ox, no, .inl ⟨ha, fun dx h1 h2 => q dx h1 h2⟩⟩
theorem sc_InvalidText___init__ : FnScope ["self", "part"] ["self", "part"] (defScope s_InvalidText___init__) := ⟨rfl, rfl, rfl, by decide +kernel, rfl, by decide +kernel, by decide +kernel⟩
theorem ok_InvalidText___init__ (T : Txt P w K mg base) : FnOk P w K mg base (L2.CX P w) 1 T.a_InvalidText___init__ T.fd_InvalidText___init__ ["self", "part"] (spIn K "part") := by
  refine FunD.ok T.F_InvalidText___init__ sc_InvalidText___init__ (spIn_len rfl) (fun cdv A fr s H vs Q E hr h => ⟨_, (pss_one (ps_ost (pv 0) (pv 1))), ?_⟩)
  obtain ⟨a, C, v, rfl, ox, no, ha, q⟩ := h
  exact ⟨_, rfl, _, rfl, a, C, rfl, ox, no, .inl ⟨ha, fun dx h1 h2 => q dx h1 h2⟩⟩
theorem sc_CannotDo___init__ : FnScope ["self", "operation"] ["self", "operation"] (defScope s_CannotDo___init__) := ⟨rfl, rfl, rfl, by decide +kernel, rfl, by decide +kernel, by decide +kernel⟩
theorem ok_CannotDo___init__ (T : Txt P w K mg base) : FnOk P w K mg base (L2.CX P w) 1 T.a_CannotDo___init__ T.fd_CannotDo___init__ ["self", "operation"] (spIn K "operation") := by
  refine FunD.ok T.F_CannotDo___init__ sc_CannotDo___init__ (spIn_len rfl) (fun cdv A fr s H vs Q E hr h => ⟨_, (pss_one (ps_ost (pv 0) (pv 1))), ?_⟩)
  obtain ⟨a, C, v, rfl, ox, no, ha, q⟩ := h
  exact ⟨_, rfl, _, rfl, a, C, rfl, ox, no, .inl ⟨ha, fun dx h1 h2 => q dx h1 h2⟩⟩
theorem sc_TooLarge___init__ : FnScope ["self", "limit"] ["self", "limit"] (defScope s_TooLarge___init__) := ⟨rfl, rfl, rfl, by decide +kernel, rfl, by decide +kernel, by decide +kernel⟩
theorem ok_TooLarge___init__ (T : Txt P w K mg base) : FnOk P w K mg base (L2.CX P w) 1 T.a_TooLarge___init__ T.fd_TooLarge___init__ ["self", "limit"] (spIn K "limit") := by
  refine FunD.ok T.F_TooLarge___init__ sc_TooLarge___init__ (spIn_len rfl) (fun cdv A fr s H vs Q E hr h => ⟨_, (pss_one (ps_ost (pv 0) (pv 1))), ?_⟩)
  obtain ⟨a, C, v, rfl, ox, no, ha, q⟩ := h
  exact ⟨_, rfl, _, rfl, a, C, rfl, ox, no, .inl ⟨ha, fun dx h1 h2 => q dx h1 h2⟩⟩
theorem sc_TooDeep___init__ : FnScope ["self", "rounds"] ["self", "rounds"] (defScope s_TooDeep___init__) := ⟨rfl, rfl, rfl, by decide +kernel, rfl, by decide +kernel, by decide +kernel⟩
theorem ok_TooDeep___init__ (T : Txt P w K mg base) : FnOk P w K mg base (L2.CX P w) 1 T.a_TooDeep___init__ T.fd_TooDeep___init__ ["self", "rounds"] (spIn K "rounds") := by
  refine FunD.ok T.F_TooDeep___init__ sc_TooDeep___init__ (spIn_len rfl) (fun cdv A fr s H vs Q E hr h => ⟨_, (pss_one (ps_ost (pv 0) (pv 1))), ?_⟩)
  obtain ⟨a, C, v, rfl, ox, no, ha, q⟩ := h
  exact ⟨_, rfl, _, rfl, a, C, rfl, ox, no, .inl ⟨ha, fun dx h1 h2 => q dx h1 h2⟩⟩
/-! ### draws of a bag -/
def Bag (H : Hp) (r : Addr) : Prop := ∃ a b c : Int, H r = some (.lst [.int a, .int b, .int c]) ∧ 0 ≤ a
theorem Bag.keep {H H' : Hp} {r : Addr} (h : Bag H r) (k : ∀ o, H r = some o → H' r = some o) : Bag H' r := by
  obtain ⟨a, b, c, e, q⟩ := h
  exact ⟨a, b, c, k _ e, q⟩
theorem Bag.ex {H H' : Hp} {r : Addr} (h : Bag H r) (e : Ex H H') : Bag H' r := h.keep fun o q => e r o q
theorem Bag.ne {H : Hp} {r p : Addr} (h : Bag H r) (hp : H p = none) : p ≠ r := by
  obtain ⟨a, b, c, e, q⟩ := h
  exact (ne_of_none e hp).symm
theorem bag_none {H H' : Hp} {r p : Addr} (o : Mo r H H') (h : Bag H' r) (hp : H' p = none) : H p = none := by
  cases q : H p with
  | none => rfl
  | some u => rw [o p u (h.ne hp) q] at hp; cases hp
def sp_L_bag (K : PySem.W.Frag) : Sp := sp1 fun x H Q _ => ∃ c : Int, x = .int c ∧ ∀ r H', H r = none → Ex H H' → Bag H' r → Q (.ref r) H'
theorem sc_L_bag : FnScope ["_law_cell"] ["_law_cell"] (defScope s_L_bag) := ⟨rfl, rfl, rfl, by decide +kernel, rfl, by decide +kernel, by decide +kernel⟩
theorem ok_L_bag (T : Txt P w K mg base) : FnOk P w K mg base (L2.CX P w) 1 T.a_L_bag T.fd_L_bag ["_law_cell"] (sp_L_bag K) := by
  refine FunD.ok T.F_L_bag sc_L_bag (fun vs H Q E h => ar1 h) (fun cdv A fr s H vs Q E hr h => ⟨_, PSs.nox (pss_one (ps_ret (pe_lst (pa_cons (pe_callB (call_max2 rfl) (by rfl) T.n_max (by decide +kernel) (pa_cons pe_int (pa_cons (pe_op op_sub (pv 0) (pe_op op_powC pe_int pe_int)) pa_nil))) (pa_cons (pv 0) (pa_cons pe_int pa_nil)))))), ?_⟩)
  obtain ⟨_, rfl, c, rfl, q⟩ := h
  walk_at "rd"
  exact fun p hp => q p _ hp (exn hp) ⟨_, _, _, upd_same, by split <;> omega⟩
def sp_L_pick (K : PySem.W.Frag) : Sp := sp2 fun x y H Q _ => ∃ (r : Addr) (n : Int), x = .ref r ∧ y = .int n ∧ Bag H r ∧ 1 ≤ n ∧ n ≤ 10 ^ 100 ∧ ∀ z H', 0 ≤ z → z < n → Mo r H H' → Bag H' r → Q (.int z) H'
theorem sc_L_pick : FnScope ["_law_bag_here", "_law_many", "_law_told", "_law_seed", "_law_turn", "_law_first", "_law_second", "_law_drawn"] ["_law_bag_here", "_law_many"] (defScope s_L_pick) := ⟨rfl, rfl, rfl, by decide +kernel, rfl, by decide +kernel, by decide +kernel⟩
theorem ok_L_pick (T : Txt P w K mg base) : FnOk P w K mg base (L2.CX P w) 1 T.a_L_pick T.fd_L_pick ["_law_bag_here", "_law_many"] (sp_L_pick K) := by
  refine FunD.ok T.F_L_pick sc_L_pick (fun vs H Q E h => ar2 h) (fun cdv A fr s H vs Q E hr h => ⟨_, PSs.nox (pss_cons (ps_asg (pe_op op_add (pe_ix ix_listT (pv 0) pe_int (fun _ _ => rfl)) pe_int) (pg_sub (pv 0) pe_int set_list)) (pss_cons (ps_if (pt_cmpR op_gt (pe_ix ix_listT (pv 0) pe_int (fun _ _ => rfl)) pe_int (nomark _)) (pss_cons (ps_set (i := 2) sc_L_pick.nd rfl (.inl rfl) (pe_op op_mod (pe_callTy call_intI (by rfl) T.n_int (by decide +kernel) (pa_cons (pe_ix ix_listT (pv 0) pe_int (fun _ _ => rfl)) pa_nil)) (pv 1))) (pss_cons (ps_asg (pe_op op_divB (pe_callTy call_intI (by rfl) T.n_int (by decide +kernel) (pa_cons (pe_ix ix_listT (pv 0) pe_int (fun _ _ => rfl)) pa_nil)) (pv 1)) (pg_sub (pv 0) pe_int set_list)) (pss_one (ps_ret (pv 2))))) pss_nil) (pss_cons (ps_par (i := 3) (j := 4) (by rfl) sc_L_pick.nd rfl rfl (by decide) rfl rfl (pa_cons (pe_callTy call_intI (by rfl) T.n_int (by decide +kernel) (pa_cons (pe_ix ix_listT (pv 0) pe_int (fun _ _ => rfl)) pa_nil)) (pa_cons (pe_callTy call_intI (by rfl) T.n_int (by decide +kernel) (pa_cons (pe_ix ix_listT (pv 0) pe_int (fun _ _ => rfl)) pa_nil)) pa_nil)) (by rfl)) (pss_cons (ps_set (i := 5) sc_L_pick.nd rfl (.inl rfl) (pe_op op_mod (pe_callTy call_intI (by rfl) T.n_int (by decide +kernel) (pa_cons (pe_op op_add (pe_op op_add (pe_op op_mul (pe_op op_mod (pv 3) pe_int) pe_int) (pe_op op_mul (pv 4) pe_int)) pe_int) pa_nil)) pe_int)) (pss_cons (ps_set (i := 6) sc_L_pick.nd rfl (.inl rfl) (pe_op op_mod (pe_callTy call_intI (by rfl) T.n_int (by decide +kernel) (pa_cons (pe_op op_add (pe_op op_mul (pv 5) (pv 5)) (pe_op op_mul (pv 4) pe_int)) pa_nil)) pe_int)) (pss_cons (ps_set (i := 7) sc_L_pick.nd rfl (.inl rfl) (pe_op op_divB (pe_callTy call_intI (by rfl) T.n_int (by decide +kernel) (pa_cons (pe_op op_add (pe_op op_mul (pv 5) pe_int) (pv 6)) pa_nil)) pe_int)) (pss_cons (ps_if (pt_cmpR op_gt (pv 1) (pe_op op_powC pe_int pe_int) (nomark _)) (pss_one (ps_set (i := 7) sc_L_pick.nd rfl (.inl rfl) (pe_op op_add (pe_op op_powB (pv 7) pe_int) (pv 6)))) pss_nil) (pss_one (ps_ret (pe_op op_mod (pe_callTy call_intI (by rfl) T.n_int (by decide +kernel) (pa_cons (pv 7) pa_nil)) (pv 1))))))))))), ?_⟩)
  obtain ⟨_, _, rfl, r, n, rfl, rfl, ⟨a, b, c, hr0, ha⟩, hn, hn2, q⟩ := h
  walk_at "rd"
  simp only [hr0]
  walk_at "rd"
  have hB := big_200
  refine ite2 (fun h => ?_) (fun h => ?_)
  · refine ⟨by omega, by unfold CDivB; omega, q _ _ (Int.emod_nonneg _ (by omega)) (Int.emod_lt_of_pos _ (by omega)) (fun x o nx hx => by simp only [upd_ne nx]; exact hx) ⟨_, _, _, upd_same, Int.ediv_nonneg ha (by omega)⟩⟩
  · have f1 : 0 ≤ (b % 2147483629 * 48271 + (c + 1) * 69621 + 12345) % 2147483647 ∧ (b % 2147483629 * 48271 + (c + 1) * 69621 + 12345) % 2147483647 < 2147483647 := ⟨by omega, by omega⟩
    generalize (b % 2147483629 * 48271 + (c + 1) * 69621 + 12345) % 2147483647 = f at *
    have s1 : 0 ≤ (f * f + (c + 1) * 40692) % 2147483587 ∧ (f * f + (c + 1) * 40692) % 2147483587 < 2147483587 := ⟨Int.emod_nonneg _ (by decide), Int.emod_lt_of_pos _ (by decide)⟩
    refine ⟨by unfold CMul; omega, by unfold CMul; omega, by unfold CMul; omega, by unfold CMul; omega, by unfold CMul; omega, ?_⟩
    generalize (f * f + (c + 1) * 40692) % 2147483587 = s at *
    refine ⟨by unfold CDivB; omega, ?_⟩
    have fin : ∀ z : Int, Q (.int (z % n)) (upd H r (.lst [.int a, .int b, .int (c + 1)])) := fun z =>
      q _ _ (Int.emod_nonneg _ (by omega)) (Int.emod_lt_of_pos _ (by omega)) (fun x o nx hx => by simp only [upd_ne nx]; exact hx) ⟨_, _, _, upd_same, ha⟩
    refine ite2 (fun h => ?_) (fun h => ?_)
    · exact ⟨by unfold CPowW; omega, by omega, fin _⟩
    · exact ⟨by omega, fin _⟩
def sp_require_length (K : PySem.W.Frag) : Sp := sp1 fun a H Q _ => ∃ (n : Int), a = .int n ∧ 1 ≤ n ∧ n ≤ 10 ^ 30 ∧ Q .non H
theorem sc_require_length : FnScope ["value"] ["value"] (defScope s_require_length) := ⟨rfl, rfl, rfl, by decide +kernel, rfl, by decide +kernel, by decide +kernel⟩
theorem ok_require_length (T : Txt P w K mg base) : FnOk P w K mg base (L2.CX P w) 3 T.a_require_length T.fd_require_length ["value"] (sp_require_length K) := by
  refine FunD.ok T.F_require_length sc_require_length (fun vs H Q E h => ar1 h) (fun cdv A fr s H vs Q E hr h => ⟨_, PSs.nox (pss_one (ps_if (pt_not (pt_val (pe_call (ok_is_whole T) hr (by rfl) T.g_is_whole T.F_is_whole.kp T.b_is_whole .nil passL (pa_cons (pv 0) (pa_cons pe_int (pa_cons (pe_glob (v := .int 1000000000000000000000000000000) (by rfl) T.c_MOST_LENGTH ⟨_, rfl⟩) pa_nil)))))) (pss_one ps_never) pss_nil)), ?_⟩)
  obtain ⟨_, rfl, n, rfl, h1, h2, q⟩ := h
  walk_at "rd"
  unfold sp_is_whole
  walk_at "rd"
  refine ⟨some n, rfl, ?_⟩
  have e : whole (some n) 1 1000000000000000000000000000000 = true := by unfold whole; exact decide_eq_true ⟨h1, by omega⟩
  rw [e]
  exact iteTF q
/-! ### reaches -/
def sp_require_slots (K : PySem.W.Frag) : Sp := sp1 fun a H Q _ => ∃ (n : Int), a = .int n ∧ 1 ≤ n ∧ n ≤ 100 ∧ Q .non H
theorem sc_require_slots : FnScope ["value"] ["value"] (defScope s_require_slots) := ⟨rfl, rfl, rfl, by decide +kernel, rfl, by decide +kernel, by decide +kernel⟩
theorem ok_require_slots (T : Txt P w K mg base) : FnOk P w K mg base (L2.CX P w) 3 T.a_require_slots T.fd_require_slots ["value"] (sp_require_slots K) := by
  refine FunD.ok T.F_require_slots sc_require_slots (fun vs H Q E h => ar1 h) (fun cdv A fr s H vs Q E hr h => ⟨_, PSs.nox (pss_one (ps_if (pt_not (pt_val (pe_call (ok_is_whole T) hr (by rfl) T.g_is_whole T.F_is_whole.kp T.b_is_whole .nil passL (pa_cons (pv 0) (pa_cons pe_int (pa_cons (pe_glob (v := .int 100) (by rfl) T.c_MOST_SLOTS ⟨_, rfl⟩) pa_nil)))))) (pss_one ps_never) pss_nil)), ?_⟩)
  obtain ⟨_, rfl, n, rfl, h1, h2, q⟩ := h
  walk_at "rd"
  unfold sp_is_whole
  walk_at "rd"
  refine ⟨some n, rfl, ?_⟩
  have e : whole (some n) 1 100 = true := by unfold whole; exact decide_eq_true ⟨h1, h2⟩
  rw [e]
  exact iteTF q
def sp_require_task (K : PySem.W.Frag) : Sp := sp2 fun a b H Q _ => ∃ (n s : Int), a = .int n ∧ b = .int s ∧ 1 ≤ n ∧ n ≤ 10 ^ 30 ∧ 1 ≤ s ∧ s ≤ 100 ∧ Q .non H
theorem sc_require_task : FnScope ["length", "slots"] ["length", "slots"] (defScope s_require_task) := ⟨rfl, rfl, rfl, by decide +kernel, rfl, by decide +kernel, by decide +kernel⟩
theorem ok_require_task (T : Txt P w K mg base) : FnOk P w K mg base (L2.CX P w) 4 T.a_require_task T.fd_require_task ["length", "slots"] (sp_require_task K) := by
  refine FunD.ok T.F_require_task sc_require_task (fun vs H Q E h => ar2 h) (fun cdv A fr s H vs Q E hr h => ⟨_, PSs.nox (pss_cons (ps_expr (pe_call (ok_require_length T) hr (by rfl) T.g_require_length T.F_require_length.kp T.b_require_length .nil passL (pa_cons (pv 0) pa_nil))) (pss_one (ps_expr (pe_call (ok_require_slots T) hr (by rfl) T.g_require_slots T.F_require_slots.kp T.b_require_slots .nil passL (pa_cons (pv 1) pa_nil))))), ?_⟩)
  obtain ⟨_, _, rfl, n, s, rfl, rfl, h1, h2, h3, h4, q⟩ := h
  walk_at "rd"
  unfold sp_require_length sp_require_slots
  walk_at "rd"
  exact ⟨h1, by omega, h3, h4, q⟩
def sp_reach_of (K : PySem.W.Frag) : Sp := sp2 fun a b H Q _ => ∃ (s r : Int), a = .int s ∧ b = .int r ∧ 0 ≤ s ∧ s ≤ 102 ∧ -1 ≤ r ∧ r ≤ 2 ^ 110 ∧ Q (.int (Rz s r)) H
theorem Rz_big {s r : Int} (h1 : s ≤ 102) (h2 : r ≤ 2 ^ 112) : Rz s r < BIG := by
  unfold Rz
  have hB := big_200
  split
  · split <;> omega
  · have h := R_le s.toNat r.toNat
    have h3 : (((r.toNat + 1) ^ s.toNat : Nat) : Int) < BIG := big_pow (a := 113) (b := 102) (by decide) (by omega) (by omega)
    omega
theorem sc_reach_of : FnScope ["slots", "rounds", "found", "turn"] ["slots", "rounds"] (defScope s_reach_of) := ⟨rfl, rfl, rfl, by decide +kernel, rfl, by decide +kernel, by decide +kernel⟩
theorem ok_reach_of (T : Txt P w K mg base) : FnOk P w K mg base (L2.CX P w) 1 T.a_reach_of T.fd_reach_of ["slots", "rounds"] (sp_reach_of K) := by
  refine FunD.ok T.F_reach_of sc_reach_of (fun vs H Q E h => ar2 h) (fun cdv A fr s H vs Q E hr h => ⟨_, PSs.nox (pss_cons (ps_set (i := 2) sc_reach_of.nd rfl (.inl rfl) pe_int) (pss_cons (ps_for PassesOwn.never rfl (pi_range2 (by rfl) T.n_range (pa_cons pe_int (pa_cons (pe_op op_add (pv 0) pe_int) pa_nil))) (pg_name (i := 3) sc_reach_of.nd rfl (.inl rfl)) (pss_one (ps_set (i := 2) sc_reach_of.nd rfl (.inl rfl) (pe_op op_divB (pe_op op_mulB (pv 2) (pe_op op_add (pv 1) (pv 3))) (pv 3))))) (pss_one (ps_ret (pv 2))))), ?_⟩)
  obtain ⟨_, _, rfl, s, r, rfl, rfl, h1, h2, h3, h4, q⟩ := h
  walk_at "rd"
  refine for_rng2 (lo := 1) (hi := s + 1) s.toNat (fun R q => by walk_at "rd"; exact q) (by omega) (by omega)
    (fun i σ H' => H' = H ∧ ∃ x, σ = [some (.int s), some (.int r), some (.int (Rz i r)), x]) ⟨rfl, none, by rw [show ((0 : Nat) : Int) = 0 by rfl, Rz_zero]⟩ ?_ ?_
  · rintro σ H' ⟨rfl, x, rfl⟩
    walk_at "rd"
    rw [show ((s.toNat : Nat) : Int) = s by omega]
    exact q
  · rintro i σ H' hi ⟨rfl, x, rfl⟩
    walk_at "rd"
    have b1 : Rz (i : Int) r < BIG := Rz_big (by omega) (by omega)
    have b2 := Rz_nonneg (i : Int) r
    have hB := big_200
    refine ⟨⟨⟨by omega, by omega⟩, by omega, by omega⟩, ⟨by omega, by omega⟩, ?_⟩
    rw [show (1 : Int) + (i : Int) = (i : Int) + 1 by omega, Rz_turn (by omega) h3]
    rfl
def sp_rounds_of (K : PySem.W.Frag) : Sp := sp2 fun a b H Q _ => ∃ (n s : Int), a = .int n ∧ b = .int s ∧ 1 ≤ n ∧ n ≤ 10 ^ 30 ∧ 1 ≤ s ∧ s ≤ 101 ∧ ∀ H', Ex H H' → Q (.int (rho n s)) H'
theorem sc_rounds_of : FnScope ["length", "slots", "low", "high", "middle"] ["length", "slots"] (defScope s_rounds_of) := ⟨rfl, rfl, rfl, by decide +kernel, rfl, by decide +kernel, by decide +kernel⟩
theorem ok_rounds_of (T : Txt P w K mg base) : FnOk P w K mg base (L2.CX P w) 2 T.a_rounds_of T.fd_rounds_of ["length", "slots"] (sp_rounds_of K) := by
  refine FunD.ok T.F_rounds_of sc_rounds_of (fun vs H Q E h => ar2 h) (fun cdv A fr s H vs Q E hr h => ⟨_, PSs.nox (pss_cons (ps_asg (pe_tup (pa_cons (pe_un un_neg pe_int) (pa_cons pe_int pa_nil))) (pg_tupT (n := 2) rfl (pgs_cons (pg_name (i := 2) sc_rounds_of.nd rfl (.inl rfl)) (pgs_cons (pg_name (i := 3) sc_rounds_of.nd rfl (.inl rfl)) pgs_nil)))) (pss_cons (ps_while PassesOwn.never (pt_cmpR op_lt (pe_call (ok_reach_of T) hr (by rfl) T.g_reach_of T.F_reach_of.kp T.b_reach_of .nil passL (pa_cons (pv 1) (pa_cons (pv 3) pa_nil))) (pv 0) (nomark _)) (pss_one (ps_par (i := 2) (j := 3) (by rfl) sc_rounds_of.nd rfl rfl (by decide) rfl rfl (pa_cons (pv 3) (pa_cons (pe_op op_mulB pe_int (pv 3)) pa_nil)) (by rfl)))) (pss_cons (ps_while PassesOwn.never (pt_cmpR op_gt (pe_op op_sub (pv 3) (pv 2)) pe_int (nomark _)) (pss_cons (ps_set (i := 4) sc_rounds_of.nd rfl (.inl rfl) (pe_op op_divB (pe_op op_add (pv 2) (pv 3)) pe_int)) (pss_one (ps_if (pt_cmpR op_lt (pe_call (ok_reach_of T) hr (by rfl) T.g_reach_of T.F_reach_of.kp T.b_reach_of .nil passL (pa_cons (pv 1) (pa_cons (pv 4) pa_nil))) (pv 0) (nomark _)) (pss_one (ps_set (i := 2) sc_rounds_of.nd rfl (.inl rfl) (pv 4))) (pss_one (ps_set (i := 3) sc_rounds_of.nd rfl (.inl rfl) (pv 4))))))) (pss_one (ps_ret (pv 3)))))), ?_⟩)
  obtain ⟨_, _, rfl, n, s, rfl, rfl, h1, h2, h3, h4, q⟩ := h
  walk_at "rd"
  intro p hp
  refine ⟨fun m σ H' => Ex H H' ∧ ∃ low high x, σ = [some (.int n), some (.int s), some (.int low), some (.int high), x] ∧ -1 ≤ low ∧ low < high ∧ 1 ≤ high ∧ high ≤ 2 * n ∧ Rz s low < n ∧ m = (2 * n - high).toNat,
    ⟨_, exn hp, -1, 1, _, rfl, by omega, by omega, by omega, by omega, by rw [Rz_neg (by omega)]; omega, rfl⟩, ?_⟩
  rintro m σ H' ⟨eH, low, high, x, rfl, l1, l2, l3, l4, l5, rfl⟩
  walk_at "rd"
  unfold sp_reach_of
  walk_at "rd"
  refine ⟨by omega, by omega, by omega, by omega, ?_⟩
  refine ite2 (fun hlt => ?_) (fun hge => ?_)
  · have hg := Rz_gt (s := s) (r := high) h3 (by omega)
    refine ⟨fun σ' H'' => H'' = H' ∧ ∃ low' high' x', σ' = [some (.int n), some (.int s), some (.int low'), some (.int high'), x'] ∧ -1 ≤ low' ∧ low' < high' ∧ 1 ≤ high' ∧ high' ≤ 2 * n ∧ Rz s low' < n ∧ high < high',
      fun σ' H'' ⟨e, low', high', x', e1, e2, e3, e4, e5, e6, e7⟩ => ⟨_, ?_, by rw [e]; exact eH, low', high', x', e1, e2, e3, e4, e5, e6, rfl⟩, ?_, ?_⟩
    · omega
    · unfold CMulB; have hB := big_200; omega
    · refine ⟨rfl, high, 2 * high, x, rfl, by omega, by omega, by omega, by omega, hlt, by omega⟩
  · refine ⟨fun m σ H'' => H'' = H' ∧ ∃ low high x, σ = [some (.int n), some (.int s), some (.int low), some (.int high), x] ∧ -1 ≤ low ∧ low < high ∧ high ≤ 2 * n ∧ Rz s low < n ∧ n ≤ Rz s high ∧ m = (high - low).toNat,
      ⟨_, rfl, low, high, x, rfl, l1, l2, l4, l5, by omega, rfl⟩, ?_⟩
    rintro m σ H'' ⟨rfl, low, high, x, rfl, l1, l2, l4, l5, l6, rfl⟩
    walk_at "rd"
    refine ite2 (fun hlt => ?_) (fun hge => ?_)
    · refine ⟨fun σ' H' => H' = H'' ∧ ∃ low' high' x', σ' = [some (.int n), some (.int s), some (.int low'), some (.int high'), x'] ∧ -1 ≤ low' ∧ low' < high' ∧ high' ≤ 2 * n ∧ Rz s low' < n ∧ n ≤ Rz s high' ∧ high' - low' < high - low,
        fun σ' H' ⟨e, low', high', x', e1, e2, e3, e5, e6, e7, e8⟩ => ⟨_, ?_, e, low', high', x', e1, e2, e3, e5, e6, e7, rfl⟩, ?_⟩
      · omega
      · unfold CDivB
        refine ⟨by omega, by omega, by omega, by omega, by omega, ?_⟩
        refine ite2 (fun h => ?_) (fun h => ?_)
        · exact ⟨rfl, (low + high) / 2, high, _, rfl, by omega, by omega, by omega, h, l6, by omega⟩
        · exact ⟨rfl, low, (low + high) / 2, _, rfl, by omega, by omega, by omega, l5, by omega, by omega⟩
    · have e : rho n s = high := rho_eq h1 h3 (by omega) l6 (by rw [show high - 1 = low by omega]; exact l5)
      rw [e] at q
      exact q _ eH
/-! ### parts of plans -/
theorem Rz_med {s r : Int} (h1 : s ≤ 102) (h2 : r ≤ 1100) : Rz s r < MED := by
  unfold Rz
  have hB := med_200
  split
  · split <;> omega
  · have h := R_le s.toNat r.toNat
    have h3 : (((r.toNat + 1) ^ s.toNat : Nat) : Int) < MED := med_pow (a := 11) (b := 102) (by decide) (by omega) (by omega)
    omega
theorem med_big : MED ≤ BIG := by
  unfold MED BIG
  have h : (2 : Nat) ^ 1900 ≤ 2 ^ 100000 := Nat.pow_le_pow_right (by decide) (by decide)
  have h2 : ((2 ^ 1900 : Nat) : Int) ≤ ((2 ^ 100000 : Nat) : Int) := Int.ofNat_le.mpr h
  rw [Int.natCast_pow, Int.natCast_pow] at h2
  exact h2
/-- a task of not too many rounds -/
def PB (n s : Int) : Prop := 1 ≤ n ∧ n ≤ 10 ^ 30 ∧ 1 ≤ s ∧ s ≤ 100 ∧ rho n s ≤ 1000
theorem PB.rest {n s : Int} (h : PB n s) (hn : 2 ≤ n) (hs : 2 ≤ s) : PB (n - hiz n s) (s - 1) := by
  obtain ⟨a, b, c⟩ := loz_range hn hs
  have r := rest_rho hn hs
  obtain ⟨h1, h2, h3, h4, h5⟩ := h
  refine ⟨by omega, by omega, by omega, by omega, ?_⟩
  rw [r]
  split <;> omega
theorem PB.ahead {n s : Int} (h : PB n s) (hn : 2 ≤ n) (hs : 2 ≤ s) : PB (hiz n s) s := by
  obtain ⟨a, b, c⟩ := loz_range hn hs
  have r := ahead_rho hn hs
  obtain ⟨h1, h2, h3, h4, h5⟩ := h
  refine ⟨by omega, by omega, by omega, by omega, ?_⟩
  rw [r]
  split <;> omega
theorem PB.big {n s : Int} (h : PB n s) : 0 ≤ rho n s ∧ 0 ≤ Rz s (rho n s) ∧ Rz s (rho n s) < BIG ∧ 10 ^ 200 < BIG := by
  obtain ⟨h1, h2, h3, h4, h5⟩ := h
  have a := Rz_med (s := s) (r := rho n s) (by omega) (by omega)
  have b := med_big
  have c := big_200
  have d := med_200
  refine ⟨rho_nonneg _ _, Rz_nonneg _ _, by omega, ?_⟩
  have e : (10 : Int) ^ 200 < MED := by
    unfold MED
    have h : (10 : Nat) ^ 200 < 2 ^ 1900 := by
      calc (10 : Nat) ^ 200 < 16 ^ 200 := Nat.pow_lt_pow_left (by decide) (by decide)
        _ = 2 ^ 800 := by rw [show (16 : Nat) = 2 ^ 4 by rfl, ← Nat.pow_mul]
        _ ≤ 2 ^ 1900 := Nat.pow_le_pow_right (by decide) (by decide)
    have h2 : ((10 ^ 200 : Nat) : Int) < ((2 ^ 1900 : Nat) : Int) := Int.ofNat_lt.mpr h
    rw [Int.natCast_pow, Int.natCast_pow] at h2
    exact h2
  omega
def sp_closed_count (K : PySem.W.Frag) : Sp := sp1 fun x H Q _ => ∃ (a : Addr) (n s : Int), x = .ref a ∧ H a = some (.tup ((partT n s).map V.int)) ∧ PB n s ∧ (Full n s → Q (.int (opsN n s)) H) ∧ (¬ Full n s → Q .non H)
theorem sc_closed_count : FnScope ["some", "length", "slots", "rounds", "reached"] ["some"] (defScope s_closed_count) := ⟨rfl, rfl, rfl, by decide +kernel, rfl, by decide +kernel, by decide +kernel⟩
theorem ok_closed_count (T : Txt P w K mg base) : FnOk P w K mg base (L2.CX P w) 1 T.a_closed_count T.fd_closed_count ["some"] (sp_closed_count K) := by
  refine FunD.ok T.F_closed_count sc_closed_count (fun vs H Q E h => ar1 h) (fun cdv A fr s H vs Q E hr h => ⟨_, PSs.nox (pss_cons (ps_asg (pv 0) (pg_tupT (n := 4) rfl (pgs_cons (pg_name (i := 1) sc_closed_count.nd rfl (.inl rfl)) (pgs_cons (pg_name (i := 2) sc_closed_count.nd rfl (.inl rfl)) (pgs_cons (pg_name (i := 3) sc_closed_count.nd rfl (.inl rfl)) (pgs_cons (pg_name (i := 4) sc_closed_count.nd rfl (.inl rfl)) pgs_nil)))))) (pss_cons (ps_if (pt_cmpR op_eq (pv 1) (pv 4) (nomark _)) (pss_one (ps_ret (pe_op op_sub (pe_op op_add (pe_op op_mulB pe_int (pv 4)) (pe_op op_mulB pe_int (pe_op op_divB (pe_op op_mulB (pv 4) (pv 2)) (pe_op op_add (pv 2) (pv 3))))) pe_int))) pss_nil) (pss_one (ps_ret (pe_ifExp (pt_cmpR op_eq (pv 2) pe_int (nomark _)) (pe_op op_sub (pe_op op_mulB pe_int (pv 1)) pe_int) pe_non))))), ?_⟩)
  obtain ⟨_, rfl, a, n, s, rfl, ha, hb, q1, q2⟩ := h
  walk_at "rd"
  simp only [ha, partT]
  walk_at "rd"
  obtain ⟨b1, b2, b3, b4⟩ := hb.big
  obtain ⟨h1, h2, h3, h4, h5⟩ := hb
  refine ite2 (fun h => ?_) fun h => ?_
  · have t := term_slots (s := s) (r := rho n s) (by omega) b1
    have c := opsN_closed (s := s) (r := rho n s) (by omega) b1
    have q := q1 h
    have nn : 0 ≤ Rz (s - 1) (rho n s) ∧ Rz (s - 1) (rho n s) < BIG := by
      have a := Rz_med (s := s - 1) (r := rho n s) (by omega) (by omega)
      have b := med_big
      exact ⟨Rz_nonneg _ _, by omega⟩
    rw [t]
    refine ⟨by unfold CMulB; omega, by unfold CMulB; omega, by unfold CDivB; omega, by unfold CMulB; omega, ?_⟩
    rw [← h] at c
    rw [show 3 * Rz s (rho n s) + 2 * Rz (s - 1) (rho n s) - 4 = opsN n s by rw [← h]; omega]
    exact q
  · refine ite2 (fun e => ?_) fun e => q2 h
    subst e
    exact absurd (full_row h1 h3 (.inr (by omega))) h
def sp_halves_of (K : PySem.W.Frag) : Sp := sp1 fun x H Q _ => ∃ (a : Addr) (n s : Int), x = .ref a ∧ H a = some (.tup ((partT n s).map V.int)) ∧ PB n s ∧ 2 ≤ n ∧ 2 ≤ s ∧
  ∀ p b c H', H p = none → Ex H H' → H' p = some (.tup [.int (hiz n s), .ref b, .ref c]) → H' b = some (.tup ((partT (n - hiz n s) (s - 1)).map V.int)) → H' c = some (.tup ((partT (hiz n s) s).map V.int)) → Q (.ref p) H'
theorem sc_halves_of : FnScope ["some", "length", "slots", "rounds", "reached", "less", "least", "other", "fewer", "split", "behind", "ahead"] ["some"] (defScope s_halves_of) := ⟨rfl, rfl, rfl, by decide +kernel, rfl, by decide +kernel, by decide +kernel⟩
theorem ok_halves_of (T : Txt P w K mg base) : FnOk P w K mg base (L2.CX P w) 1 T.a_halves_of T.fd_halves_of ["some"] (sp_halves_of K) := by
  refine FunD.ok T.F_halves_of sc_halves_of (fun vs H Q E h => ar1 h) (fun cdv A fr s H vs Q E hr h => ⟨_, PSs.nox (Evl.pss_cut (ps_asg (pv 0) (pg_tupT (n := 4) rfl (pgs_cons (pg_name (i := 1) sc_halves_of.nd rfl (.inl rfl)) (pgs_cons (pg_name (i := 2) sc_halves_of.nd rfl (.inl rfl)) (pgs_cons (pg_name (i := 3) sc_halves_of.nd rfl (.inl rfl)) (pgs_cons (pg_name (i := 4) sc_halves_of.nd rfl (.inl rfl)) pgs_nil)))))) (Evl.pss_cut (ps_set (i := 5) sc_halves_of.nd rfl (.inl rfl) (pe_op op_divB (pe_op op_mulB (pv 4) (pv 3)) (pe_op op_add (pv 2) (pv 3)))) (Evl.pss_cut (ps_set (i := 6) sc_halves_of.nd rfl (.inl rfl) (pe_op op_divB (pe_op op_mulB (pv 5) (pe_op op_sub (pv 3) pe_int)) (pe_op op_sub (pe_op op_add (pv 2) (pv 3)) pe_int))) (Evl.pss_cut (ps_par (i := 7) (j := 8) (by rfl) sc_halves_of.nd rfl rfl (by decide) rfl rfl (pa_cons (pe_op op_sub (pv 4) (pv 5)) (pa_cons (pe_op op_sub (pv 5) (pv 6)) pa_nil)) (by rfl)) (Evl.pss_cut (ps_set (i := 9) sc_halves_of.nd rfl (.inl rfl) (pe_callB (call_min3 rfl) (by rfl) T.n_min (by decide +kernel) (pa_cons (pe_op op_sub (pv 1) pe_int) (pa_cons (pv 5) (pa_cons (pe_op op_sub (pv 1) (pv 8)) pa_nil))))) (pss_cons (ps_set (i := 10) sc_halves_of.nd rfl (.inl rfl) (pe_tup (pa_cons (pe_op op_sub (pv 1) (pv 9)) (pa_cons (pe_op op_sub (pv 2) pe_int) (pa_cons (pv 3) (pa_cons (pv 7) pa_nil)))))) (pss_cons (ps_if (pt_cmpR op_eq (pe_op op_sub (pv 1) (pv 9)) (pv 8) (nomark _)) (pss_one (ps_set (i := 10) sc_halves_of.nd rfl (.inl rfl) (pe_tup (pa_cons (pv 8) (pa_cons (pe_op op_sub (pv 2) pe_int) (pa_cons (pe_op op_sub (pv 3) pe_int) (pa_cons (pv 8) pa_nil))))))) pss_nil) (pss_cons (ps_set (i := 11) sc_halves_of.nd rfl (.inl rfl) (pe_tup (pa_cons (pv 9) (pa_cons (pv 2) (pa_cons (pe_op op_sub (pv 3) pe_int) (pa_cons (pv 5) pa_nil)))))) (pss_one (ps_ret (pe_tup (pa_cons (pv 9) (pa_cons (pv 10) (pa_cons (pe_ifExp (pt_cmpR op_eq (pv 9) (pv 6) (nomark _)) (pe_tup (pa_cons (pv 6) (pa_cons (pv 2) (pa_cons (pe_op op_sub (pv 3) pe_int) (pa_cons (pv 6) pa_nil))))) (pv 11)) pa_nil)))))))))))))), ?_⟩)
  obtain ⟨_, rfl, a, n, s, rfl, ha, hb, hn, hs, q⟩ := h
  obtain ⟨b1, b2, b3, b4⟩ := hb.big
  have hr := rho_pos (n := n) (s := s) hn (by omega)
  obtain ⟨l1, l2, l3⟩ := loz_range hn hs
  obtain ⟨h1, h2, h3, h4, h5⟩ := hb
  have t1 := term_less (s := s) (r := rho n s) (by omega) b1
  have t2 := term_less (s := s) (r := rho n s - 1) (by omega) (by omega)
  have m1 : 0 ≤ Rz s (rho n s - 1) ∧ Rz s (rho n s - 1) < BIG := by
    have a := Rz_med (s := s) (r := rho n s - 1) (by omega) (by omega)
    have b := med_big
    exact ⟨Rz_nonneg _ _, by omega⟩
  have e1 := Rz_next (s := s - 1) (r := rho n s) (by omega) (by omega)
  have e2 := Rz_next (s := s - 1) (r := rho n s - 1) (by omega) (by omega)
  rw [show s - 1 + 1 = s by omega] at e1 e2
  rw [show rho n s - 1 - 1 = rho n s - 2 by omega] at e2 t2
  refine Evl.q_cut (M := fun σ' H' => σ' = [some (.ref a), some (.int n), some (.int s), some (.int (rho n s)), some (.int (Rz s (rho n s))), none, none, none, none, none, none, none] ∧ H = H') ?_ ?_
  · walk_at "rd"
    simp only [ha, partT]
    walk_at "rd"
  rintro σ _ ⟨rfl, rfl⟩
  refine Evl.q_cut (M := fun σ' H' => σ' = [some (.ref a), some (.int n), some (.int s), some (.int (rho n s)), some (.int (Rz s (rho n s))), some (.int (Rz s (rho n s - 1))), none, none, none, none, none, none] ∧ H = H') ?_ ?_
  · walk_at "rd"
    rw [t1]
    exact ⟨by unfold CMulB; omega, by unfold CDivB; omega, rfl⟩
  rintro σ _ ⟨rfl, rfl⟩
  refine Evl.q_cut (M := fun σ' H' => σ' = [some (.ref a), some (.int n), some (.int s), some (.int (rho n s)), some (.int (Rz s (rho n s))), some (.int (Rz s (rho n s - 1))), some (.int (Rz s (rho n s - 2))), none, none, none, none, none] ∧ H = H') ?_ ?_
  · walk_at "rd"
    rw [show s + rho n s - 1 = s + (rho n s - 1) by omega, t2]
    exact ⟨by unfold CMulB; omega, by unfold CDivB; omega, rfl⟩
  rintro σ _ ⟨rfl, rfl⟩
  refine Evl.q_cut (M := fun σ' H' => σ' = [some (.ref a), some (.int n), some (.int s), some (.int (rho n s)), some (.int (Rz s (rho n s))), some (.int (Rz s (rho n s - 1))), some (.int (Rz s (rho n s - 2))), some (.int (Rz (s - 1) (rho n s))), some (.int (Rz (s - 1) (rho n s - 1))), none, none, none] ∧ H = H') ?_ ?_
  · walk_at "rd"
    exact ⟨by omega, by omega⟩
  rintro σ _ ⟨rfl, rfl⟩
  refine Evl.q_cut (M := fun σ' H' => σ' = [some (.ref a), some (.int n), some (.int s), some (.int (rho n s)), some (.int (Rz s (rho n s))), some (.int (Rz s (rho n s - 1))), some (.int (Rz s (rho n s - 2))), some (.int (Rz (s - 1) (rho n s))), some (.int (Rz (s - 1) (rho n s - 1))), some (.int (hiz n s)), none, none] ∧ H = H') ?_ ?_
  · walk_at "rd"
    unfold hiz
    exact rfl
  rintro σ _ ⟨rfl, rfl⟩
  walk_at "rd"
  have tail : ∀ (H1 : Hp) (b : Addr), Ex H H1 → H1 b = some (.tup ((restT n s).map V.int)) → ∀ p2, H1 p2 = none → (if hiz n s = Rz s (rho n s - 2) then ∀ p3, (upd H1 p2 (.tup [.int (hiz n s), .int s, .int (rho n s - 1), .int (Rz s (rho n s - 1))])) p3 = none → ∀ p4, (upd (upd H1 p2 (.tup [.int (hiz n s), .int s, .int (rho n s - 1), .int (Rz s (rho n s - 1))])) p3 (.tup [.int (Rz s (rho n s - 2)), .int s, .int (rho n s - 2), .int (Rz s (rho n s - 2))])) p4 = none →
        Q (.ref p4) (upd (upd (upd H1 p2 (.tup [.int (hiz n s), .int s, .int (rho n s - 1), .int (Rz s (rho n s - 1))])) p3 (.tup [.int (Rz s (rho n s - 2)), .int s, .int (rho n s - 2), .int (Rz s (rho n s - 2))])) p4 (.tup [.int (hiz n s), .ref b, .ref p3]))
      else ∀ p3, (upd H1 p2 (.tup [.int (hiz n s), .int s, .int (rho n s - 1), .int (Rz s (rho n s - 1))])) p3 = none → Q (.ref p3) (upd (upd H1 p2 (.tup [.int (hiz n s), .int s, .int (rho n s - 1), .int (Rz s (rho n s - 1))])) p3 (.tup [.int (hiz n s), .ref b, .ref p2]))) := by
    intro H1 b e hb p2 hp2
    have fin : ∀ (c p : Addr) (H2 : Hp), Ex H1 H2 → H2 p = none → H2 c = some (.tup ((aheadT n s).map V.int)) → Q (.ref p) (upd H2 p (.tup [.int (hiz n s), .ref b, .ref c])) := by
      intro c p H2 e2 hp hc
      have hb2 := e2 _ _ hb
      rw [restT_eq hn hs] at hb2
      rw [aheadT_eq hn hs] at hc
      exact q p b c _ (Evl.fresh_back (e.trans e2) hp) ((e.trans e2).trans (exn hp)) upd_same (exn hp _ _ hb2) (exn hp _ _ hc)
    refine ite2 (fun h p3 hp3 p4 hp4 => ?_) fun h p3 hp3 => ?_
    · exact fin p3 p4 _ ((exn hp2).trans (exn hp3)) hp4 (by unfold aheadT; rw [upd_same, if_pos h]; rfl)
    · exact fin p2 p3 _ (exn hp2) hp3 (by unfold aheadT; rw [upd_same, if_neg h]; rfl)
  intro p hp
  refine ite2 (fun h p1 hp1 => ?_) fun h => ?_
  · exact tail _ p1 ((exn hp).trans (exn hp1)) (by unfold restT; rw [upd_same, if_pos h]; rfl)
  · exact tail _ p (exn hp) (by unfold restT; rw [upd_same, if_neg h]; rfl)
def sp_own_operations (K : PySem.W.Frag) : Sp := sp1 fun x H Q _ => ∃ (a : Addr) (m : Int) (r : List V), x = .ref a ∧ H a = some (.tup (.int m :: r)) ∧ Q (.int (if m > 1 then 4 else 2)) H
theorem sc_own_operations : FnScope ["behind"] ["behind"] (defScope s_own_operations) := ⟨rfl, rfl, rfl, by decide +kernel, rfl, by decide +kernel, by decide +kernel⟩
theorem ok_own_operations (T : Txt P w K mg base) : FnOk P w K mg base (L2.CX P w) 1 T.a_own_operations T.fd_own_operations ["behind"] (sp_own_operations K) := by
  refine FunD.ok T.F_own_operations sc_own_operations (fun vs H Q E h => ar1 h) (fun cdv A fr s H vs Q E hr h => ⟨_, PSs.nox (pss_one (ps_ret (pe_ifExp (pt_cmpR op_gt (pe_ix ix_tupT (pv 0) pe_int (fun _ _ => rfl)) pe_int (nomark _)) pe_int pe_int))), ?_⟩)
  obtain ⟨_, rfl, a, m, r, rfl, ha, q⟩ := h
  walk_at "rd"
  refine ⟨_, ha, ?_⟩
  walk_at "rd"
  by_cases h : 1 < m
  · rw [if_pos h] at *
    exact q
  · rw [if_neg h] at *
    exact q
def sp_count_of (K : PySem.W.Frag) : Sp := sp1 fun x H Q _ => ∃ (a : Addr) (n s : Int), x = .ref a ∧ H a = some (.tup ((partT n s).map V.int)) ∧ PB n s ∧ ∀ H', Ex H H' → Q (.int (opsN n s)) H'
theorem sc_count_of : FnScope ["some", "found", "left", "split", "behind", "ahead"] ["some"] (defScope s_count_of) := ⟨rfl, rfl, rfl, by decide +kernel, rfl, by decide +kernel, by decide +kernel⟩
theorem ok_count_of (T : Txt P w K mg base) : FnOk P w K mg base (L2.CX P w) 2 T.a_count_of T.fd_count_of ["some"] (sp_count_of K) := by
  refine FunD.ok T.F_count_of sc_count_of (fun vs H Q E h => ar1 h) (fun cdv A fr s H vs Q E hr h => ⟨_, PSs.nox (pss_cons (ps_par (i := 1) (j := 2) (by rfl) sc_count_of.nd rfl rfl (by decide) rfl rfl (pa_cons pe_int (pa_cons (pv 0) pa_nil)) (by rfl)) (pss_cons (ps_while PassesOwn.never (pt_cmpR op_isN (pe_call (ok_closed_count T) hr (by rfl) T.g_closed_count T.F_closed_count.kp T.b_closed_count .nil passL (pa_cons (pv 2) pa_nil)) pe_non (nomark _)) (pss_cons (ps_asg (pe_call (ok_halves_of T) hr (by rfl) T.g_halves_of T.F_halves_of.kp T.b_halves_of .nil passL (pa_cons (pv 2) pa_nil)) (pg_tupT (n := 3) rfl (pgs_cons (pg_name (i := 3) sc_count_of.nd rfl (.inl rfl)) (pgs_cons (pg_name (i := 4) sc_count_of.nd rfl (.inl rfl)) (pgs_cons (pg_name (i := 5) sc_count_of.nd rfl (.inl rfl)) pgs_nil))))) (pss_cons (ps_aug (i := 1) sc_count_of.nd rfl (.inl rfl) (pe_call (ok_own_operations T) hr (by rfl) T.g_own_operations T.F_own_operations.kp T.b_own_operations .nil passL (pa_cons (pv 4) pa_nil)) ip_add) (pss_one (ps_if (pt_cmpR op_isN (pe_call (ok_closed_count T) hr (by rfl) T.g_closed_count T.F_closed_count.kp T.b_closed_count .nil passL (pa_cons (pv 4) pa_nil)) pe_non (nomark _)) (pss_one (ps_par (i := 1) (j := 2) (by rfl) sc_count_of.nd rfl rfl (by decide) rfl rfl (pa_cons (pe_op op_add (pv 1) (pe_call (ok_closed_count T) hr (by rfl) T.g_closed_count T.F_closed_count.kp T.b_closed_count .nil passL (pa_cons (pv 5) pa_nil))) (pa_cons (pv 4) pa_nil)) (by rfl))) (pss_one (ps_par (i := 1) (j := 2) (by rfl) sc_count_of.nd rfl rfl (by decide) rfl rfl (pa_cons (pe_op op_add (pv 1) (pe_call (ok_closed_count T) hr (by rfl) T.g_closed_count T.F_closed_count.kp T.b_closed_count .nil passL (pa_cons (pv 4) pa_nil))) (pa_cons (pv 5) pa_nil)) (by rfl)))))))) (pss_one (ps_ret (pe_op op_add (pv 1) (pe_call (ok_closed_count T) hr (by rfl) T.g_closed_count T.F_closed_count.kp T.b_closed_count .nil passL (pa_cons (pv 2) pa_nil))))))), ?_⟩)
  obtain ⟨_, rfl, a, n, s, rfl, ha, hb, q⟩ := h
  walk_at "rd"
  refine ⟨fun m σ H' => Ex H H' ∧ ∃ (f : Int) (l : Addr) (n' s' : Int) (x y z : Option V), σ = [some (.ref a), some (.int f), some (.ref l), x, y, z] ∧ H' l = some (.tup ((partT n' s').map V.int)) ∧ PB n' s' ∧ f + opsN n' s' = opsN n s ∧ m = n'.toNat,
    ⟨_, .refl _, 0, a, n, s, _, _, _, rfl, ha, hb, by omega, rfl⟩, ?_⟩
  rintro m σ H' ⟨e, f, l, n', s', x, y, z, rfl, hl, hb', hf, rfl⟩
  walk_at "rd"
  unfold sp_closed_count sp_halves_of sp_own_operations
  walk_at "rd"
  refine ⟨n', s', hl, hb', fun hF => ?_, fun hF => ?_⟩
  · exact ⟨n', s', hl, hb', fun _ => by rw [hf]; exact q _ e, fun h => absurd hF h⟩
  · have two : 2 ≤ n' ∧ 2 ≤ s' := by
      have := mt (full_row (n := n') (s := s') hb'.1 hb'.2.2.1) hF
      omega
    obtain ⟨hn, hs⟩ := two
    obtain ⟨l1, l2, l3⟩ := loz_range hn hs
    refine ⟨fun σ' H'' => Ex H H'' ∧ ∃ (f : Int) (l : Addr) (n2 s2 : Int) (x y z : Option V), σ' = [some (.ref a), some (.int f), some (.ref l), x, y, z] ∧ H'' l = some (.tup ((partT n2 s2).map V.int)) ∧ PB n2 s2 ∧ f + opsN n2 s2 = opsN n s ∧ n2.toNat < n'.toNat,
      fun σ' H'' ⟨e, f, l, n2, s2, x, y, z, e1, e2, e3, e4, e5⟩ => ⟨_, e5, e, f, l, n2, s2, x, y, z, e1, e2, e3, e4, rfl⟩, ?_⟩
    refine ⟨n', s', hl, hb', hn, hs, fun p b c H1 hp e1 h1 h2 h3 => ?_⟩
    simp only [h1]
    walk_at "rd"
    have pr := hb'.rest hn hs
    have pa := hb'.ahead hn hs
    have e2 := opsN_two hn hs
    refine ⟨_, _, h2, _, _, h2, pr, fun hF2 => ?_, fun hF2 => ?_⟩
    · refine ⟨_, _, h2, pr, fun _ => ?_, fun h => absurd hF2 h⟩
      exact ⟨e.trans e1, _, _, h3, pa, by omega, by omega⟩
    · have hF3 := (one_full hn hs).resolve_left hF2
      refine ⟨_, _, h3, pa, fun _ => ?_, fun h => absurd hF3 h⟩
      exact ⟨e.trans e1, _, _, h2, pr, by omega, by omega⟩
def planT (b n s : Int) : List Int := [b, n, s, rho n s, Rz s (rho n s), opsN n s]
def sp_parts_of (K : PySem.W.Frag) : Sp := sp1 fun x H Q _ => ∃ (a : Addr) (b n s : Int), x = .ref a ∧ H a = some (.tup ((planT b n s).map V.int)) ∧ PB n s ∧ 2 ≤ n ∧ 2 ≤ s ∧
  ∀ p c d H', H p = none → Ex H H' → H' p = some (.tup [.int (hiz n s), .ref c, .ref d]) → H' c = some (.tup ((planT (b + hiz n s) (n - hiz n s) (s - 1)).map V.int)) → H' d = some (.tup ((planT b (hiz n s) s).map V.int)) → Q (.ref p) H'
theorem sc_parts_of : FnScope ["part", "split", "behind", "ahead", "many", "rest"] ["part"] (defScope s_parts_of) := ⟨rfl, rfl, rfl, by decide +kernel, rfl, by decide +kernel, by decide +kernel⟩
theorem ok_parts_of (T : Txt P w K mg base) : FnOk P w K mg base (L2.CX P w) 2 T.a_parts_of T.fd_parts_of ["part"] (sp_parts_of K) := by
  refine FunD.ok T.F_parts_of sc_parts_of (fun vs H Q E h => ar1 h) (fun cdv A fr s H vs Q E hr h => ⟨_, PSs.nox (Evl.pss_cut (ps_asg (pe_call (ok_halves_of T) hr (by rfl) T.g_halves_of T.F_halves_of.kp T.b_halves_of .nil passL (pa_cons (pe_slice (r := rSlT K) sl_tup (pv 0) (po_some pe_int) (po_some pe_int)) pa_nil)) (pg_tupT (n := 3) rfl (pgs_cons (pg_name (i := 1) sc_parts_of.nd rfl (.inl rfl)) (pgs_cons (pg_name (i := 2) sc_parts_of.nd rfl (.inl rfl)) (pgs_cons (pg_name (i := 3) sc_parts_of.nd rfl (.inl rfl)) pgs_nil))))) (Evl.pss_cut (ps_set (i := 4) sc_parts_of.nd rfl (.inl rfl) (pe_call (ok_closed_count T) hr (by rfl) T.g_closed_count T.F_closed_count.kp T.b_closed_count .nil passL (pa_cons (pv 2) pa_nil))) (Evl.pss_cut (ps_if (pt_cmpR op_isN (pv 4) pe_non (nomark _)) (pss_one (ps_set (i := 4) sc_parts_of.nd rfl (.inl rfl) (pe_op op_sub (pe_op op_sub (pe_ix ix_tupT (pv 0) pe_int (fun _ _ => rfl)) (pe_call (ok_own_operations T) hr (by rfl) T.g_own_operations T.F_own_operations.kp T.b_own_operations .nil passL (pa_cons (pv 2) pa_nil))) (pe_call (ok_closed_count T) hr (by rfl) T.g_closed_count T.F_closed_count.kp T.b_closed_count .nil passL (pa_cons (pv 3) pa_nil))))) pss_nil) (pss_cons (ps_set (i := 5) sc_parts_of.nd rfl (.inl rfl) (pe_op op_sub (pe_op op_sub (pe_ix ix_tupT (pv 0) pe_int (fun _ _ => rfl)) (pe_call (ok_own_operations T) hr (by rfl) T.g_own_operations T.F_own_operations.kp T.b_own_operations .nil passL (pa_cons (pv 2) pa_nil))) (pv 4))) (pss_one (ps_ret (pe_tup (pa_cons (pv 1) (pa_cons (pe_tup (pa_cons (pe_op op_add (pe_ix ix_tupT (pv 0) pe_int (fun _ _ => rfl)) (pv 1)) (StX.pa_star (pv 2) (pa_cons (pv 4) pa_nil)))) (pa_cons (pe_tup (pa_cons (pe_ix ix_tupT (pv 0) pe_int (fun _ _ => rfl)) (StX.pa_star (pv 3) (pa_cons (pv 5) pa_nil)))) pa_nil)))))))))), ?_⟩)
  obtain ⟨_, rfl, a, b, n, s, rfl, ha, hb, hn, hs, q⟩ := h
  obtain ⟨l1, l2, l3⟩ := loz_range hn hs
  refine Evl.q_cut (M := fun σ' H' => ∃ c d, σ' = [some (.ref a), some (.int (hiz n s)), some (.ref c), some (.ref d), none, none] ∧ Ex H H' ∧ H' c = some (.tup ((partT (n - hiz n s) (s - 1)).map V.int)) ∧ H' d = some (.tup ((partT (hiz n s) s).map V.int))) ?_ ?_
  · unfold sp_halves_of
    walk_at "rd"
    refine ⟨_, sq_t ha, fun h => absurd h.1 (show ¬ ((1 : Nat) = 0) by decide), fun p hp => ?_⟩
    refine ⟨n, s, by rfl, hb, hn, hs, fun p2 c d H2 hp2 e2 h1 h2 h3 => ?_⟩
    simp only [h1]
    walk_at "rd"
    exact ⟨(exn hp).trans e2, h2, h3⟩
  rintro σ H1 ⟨c, d, rfl, e1, hc, hd⟩
  have ha1 := e1 _ _ ha
  have pr := hb.rest hn hs
  have pa := hb.ahead hn hs
  have e2 := opsN_two hn hs
  refine Evl.q_cut (M := fun σ' H' => σ' = [some (.ref a), some (.int (hiz n s)), some (.ref c), some (.ref d), some (if Full (n - hiz n s) (s - 1) then .int (opsN (n - hiz n s) (s - 1)) else .non), none] ∧ H1 = H') ?_ ?_
  · unfold sp_closed_count
    walk_at "rd"
    exact ⟨_, _, hc, pr, fun h => by rw [if_pos h], fun h => by rw [if_neg h]⟩
  rintro σ _ ⟨rfl, rfl⟩
  refine Evl.q_cut (M := fun σ' H' => σ' = [some (.ref a), some (.int (hiz n s)), some (.ref c), some (.ref d), some (.int (opsN (n - hiz n s) (s - 1))), none] ∧ H1 = H') ?_ ?_
  · unfold sp_closed_count sp_own_operations
    by_cases hF : Full (n - hiz n s) (s - 1)
    · rw [if_pos hF]
      walk_at "rd"
    · rw [if_neg hF]
      have hF3 := (one_full hn hs).resolve_left hF
      walk_at "rd"
      refine ⟨_, ha1, _, atI_5, ?_⟩
      walk_at "rd"
      refine ⟨_, _, hc, _, _, hd, pa, fun _ => ?_, fun h => absurd hF3 h⟩
      rw [e2]
      omega
  rintro σ _ ⟨rfl, rfl⟩
  unfold sp_own_operations
  walk_at "rd"
  refine ⟨_, ha1, _, atI_5, _, _, hc, ?_⟩
  walk_at "rd"
  refine ⟨_, ha1, _, atI_0, ?_⟩
  walk_at "rd"
  refine ⟨_, .inl (sq_t hc), by simp [partT], fun p hp => ?_⟩
  have e3 := exn (o := .tup (.int (b + hiz n s) :: ((partT (n - hiz n s) (s - 1)).map V.int ++ [.int (opsN (n - hiz n s) (s - 1))]))) hp
  refine ⟨_, e3 _ _ ha1, _, atI_0, _, .inl (sq_t (e3 _ _ hd)), by simp [partT], fun p2 hp2 p3 hp3 => ?_⟩
  have ee : opsN n s - (if 1 < n - hiz n s then 4 else 2) - opsN (n - hiz n s) (s - 1) = opsN (hiz n s) s := by
    rw [e2]
    omega
  rw [ee] at hp3 ⊢
  exact q p3 p p2 _ (Evl.fresh_back (((e1.trans e3).trans (exn hp2))) hp3) ((((e1.trans e3).trans (exn hp2))).trans (exn hp3)) upd_same (exn hp3 _ _ (exn hp2 _ _ upd_same)) (exn hp3 _ _ upd_same)
def sp_whole_plan (K : PySem.W.Frag) : Sp := sp2 fun x y H Q _ => ∃ (n s : Int), x = .int n ∧ y = .int s ∧ PB n s ∧ ∀ p H', H p = none → Ex H H' → H' p = some (.tup ((planT 0 n s).map V.int)) → Q (.ref p) H'
theorem sc_whole_plan : FnScope ["length", "slots", "rounds", "some"] ["length", "slots"] (defScope s_whole_plan) := ⟨rfl, rfl, rfl, by decide +kernel, rfl, by decide +kernel, by decide +kernel⟩
theorem ok_whole_plan (T : Txt P w K mg base) : FnOk P w K mg base (L2.CX P w) 5 T.a_whole_plan T.fd_whole_plan ["length", "slots"] (sp_whole_plan K) := by
  refine FunD.ok T.F_whole_plan sc_whole_plan (fun vs H Q E h => ar2 h) (fun cdv A fr s H vs Q E hr h => ⟨_, PSs.nox (pss_cons (ps_expr (pe_call (ok_require_task T) hr (by rfl) T.g_require_task T.F_require_task.kp T.b_require_task .nil passL (pa_cons (pv 0) (pa_cons (pv 1) pa_nil)))) (pss_cons (ps_set (i := 2) sc_whole_plan.nd rfl (.inl rfl) (pe_call (ok_rounds_of T) (hr.mono (by decide)) (by rfl) T.g_rounds_of T.F_rounds_of.kp T.b_rounds_of .nil passL (pa_cons (pv 0) (pa_cons (pv 1) pa_nil)))) (pss_cons (ps_if (pt_cmpR op_gt (pv 2) (pe_glob (v := .int 1000) (by rfl) T.c_MOST_ROUNDS ⟨_, rfl⟩) (nomark _)) (pss_one ps_never) pss_nil) (pss_cons (ps_set (i := 3) sc_whole_plan.nd rfl (.inl rfl) (pe_tup (pa_cons (pv 0) (pa_cons (pv 1) (pa_cons (pv 2) (pa_cons (pe_call (ok_reach_of T) (hr.mono (by decide)) (by rfl) T.g_reach_of T.F_reach_of.kp T.b_reach_of .nil passL (pa_cons (pv 1) (pa_cons (pv 2) pa_nil))) pa_nil)))))) (pss_one (ps_ret (pe_tup (pa_cons pe_int (StX.pa_star (pv 3) (pa_cons (pe_call (ok_count_of T) (hr.mono (by decide)) (by rfl) T.g_count_of T.F_count_of.kp T.b_count_of .nil passL (pa_cons (pv 3) pa_nil)) pa_nil)))))))))), ?_⟩)
  obtain ⟨_, _, rfl, n, s, rfl, rfl, hb, q⟩ := h
  have hb' := hb
  obtain ⟨h1, h2, h3, h4, h5⟩ := hb'
  have r0 := rho_nonneg n s
  unfold sp_require_task sp_rounds_of sp_reach_of sp_count_of
  walk_at "rd"
  refine ⟨h1, h2, h3, h4, h1, h2, h3, by omega, fun H2 e2 => iteNo (by omega) ⟨by omega, by omega, by omega, by omega, fun p hp => ?_⟩⟩
  refine ⟨_, .inl (sq_t upd_same), n, s, rfl, hb, fun H3 e3 => ⟨by simp, fun p2 hp2 => ?_⟩⟩
  exact q p2 _ (Evl.fresh_back ((e2.trans (exn hp)).trans e3) hp2) (((e2.trans (exn hp)).trans e3).trans (exn hp2)) upd_same
/-! operations -/
def opV : Op → List V
  | .go k => [.str "go", .int k]
  | .keep => [.str "keep"]
  | .take m => [.str "take", .int m]
  | .free m => [.str "free", .int m]
  | .back => [.str "back"]
def sp_row_operation (K : PySem.W.Frag) : Sp := sp2 fun x y H Q _ => ∃ (a : Addr) (b n s i : Int), x = .ref a ∧ y = .int i ∧ H a = some (.tup ((planT b n s).map V.int)) ∧ 1 ≤ n ∧ 0 ≤ i ∧
  ∀ p H', H p = none → Ex H H' → H' p = some (.tup (opV (rowOp b n i))) → Q (.ref p) H'
theorem sc_row_operation : FnScope ["part", "number", "state", "length", "turn", "which"] ["part", "number"] (defScope s_row_operation) := ⟨rfl, rfl, rfl, by decide +kernel, rfl, by decide +kernel, by decide +kernel⟩
theorem ok_row_operation (T : Txt P w K mg base) : FnOk P w K mg base (L2.CX P w) 1 T.a_row_operation T.fd_row_operation ["part", "number"] (sp_row_operation K) := by
  refine FunD.ok T.F_row_operation sc_row_operation (fun vs H Q E h => ar2 h) (fun cdv A fr s H vs Q E hr h => ⟨_, PSs.nox (pss_cons (ps_par (i := 2) (j := 3) (by rfl) sc_row_operation.nd rfl rfl (by decide) rfl rfl (pa_cons (pe_ix ix_tupT (pv 0) pe_int (fun _ _ => rfl)) (pa_cons (pe_ix ix_tupT (pv 0) pe_int (fun _ _ => rfl)) pa_nil)) (by rfl)) (pss_cons (ps_asg (pe_callB call_divmod (by rfl) T.n_divmod (by decide +kernel) (pa_cons (pv 1) (pa_cons pe_int pa_nil))) (pg_tupT (n := 2) rfl (pgs_cons (pg_name (i := 4) sc_row_operation.nd rfl (.inl rfl)) (pgs_cons (pg_name (i := 5) sc_row_operation.nd rfl (.inl rfl)) pgs_nil)))) (pss_cons (ps_if (PW.pt (pw_or (pt_cmpR op_eq (pv 4) (pe_op op_sub (pv 3) pe_int) (nomark _)) (pw_or1 (pt_cmpR op_eq (pv 5) pe_int (nomark _))))) (pss_one (ps_ret (pe_tup (pa_cons pe_str pa_nil)))) pss_nil) (pss_one (ps_ret (pe_ifExp (pt_cmpR op_eq (pv 5) pe_int (nomark _)) (pe_tup (pa_cons pe_str (pa_cons (pe_op op_sub (pe_op op_sub (pv 3) pe_int) (pv 4)) pa_nil))) (pe_tup (pa_cons pe_str (pa_cons (pv 2) pa_nil))))))))), ?_⟩)
  obtain ⟨_, _, rfl, a, b, n, s, i, rfl, rfl, ha, h1, h2, q⟩ := h
  walk_at "rd"
  refine ⟨_, ha, _, atI_0, _, ha, _, atI_1, ?_⟩
  walk_at "rd"
  refine ⟨by unfold CDiv; omega, fun p hp => ?_⟩
  have fin : ∀ (o : Op) (p2 : Addr), rowOp b n i = o → upd H p (.tup [.int (i / 3), .int (i % 3)]) p2 = none → Q (.ref p2) (upd (upd H p (.tup [.int (i / 3), .int (i % 3)])) p2 (.tup (opV o))) := fun o p2 h hp2 =>
    q p2 _ (Evl.fresh_back (exn hp) hp2) ((exn hp).trans (exn hp2)) (by rw [upd_same, h])
  refine ite2 (fun h p2 hp2 => ?_) fun h => ite2 (fun h' p2 hp2 => ?_) fun h' => ite2 (fun h2 p2 hp2 => ?_) fun h2 p2 hp2 => ?_
  · exact fin .back p2 (by unfold rowOp; rw [if_pos (.inl h)]) hp2
  · exact fin .back p2 (by unfold rowOp; rw [if_pos (.inr h')]) hp2
  · exact fin (.go _) p2 (by unfold rowOp; rw [if_neg (by omega), if_pos h2]) hp2
  · exact fin (.take _) p2 (by unfold rowOp; rw [if_neg (by omega), if_neg h2]) hp2
def sp_operation_of (K : PySem.W.Frag) : Sp := sp2 fun x y H Q _ => ∃ (a : Addr) (b n s i : Int), x = .ref a ∧ y = .int i ∧ H a = some (.tup ((planT b n s).map V.int)) ∧ PB n s ∧ 0 ≤ i ∧ i < opsN n s ∧
  ∀ p H', H p = none → Ex H H' → H' p = some (.tup (opV (opAt n s b i))) → Q (.ref p) H'
theorem sc_operation_of : FnScope ["plan", "number", "part", "left", "split", "behind", "ahead", "kept"] ["plan", "number"] (defScope s_operation_of) := ⟨rfl, rfl, rfl, by decide +kernel, rfl, by decide +kernel, by decide +kernel⟩
theorem ok_operation_of (T : Txt P w K mg base) : FnOk P w K mg base (L2.CX P w) 3 T.a_operation_of T.fd_operation_of ["plan", "number"] (sp_operation_of K) := by
  refine FunD.ok T.F_operation_of sc_operation_of (fun vs H Q E h => ar2 h) (fun cdv A fr s H vs Q E hr h => ⟨_, PSs.nox (pss_cons (ps_par (i := 2) (j := 3) (by rfl) sc_operation_of.nd rfl rfl (by decide) rfl rfl (pa_cons (pv 0) (pa_cons (pv 1) pa_nil)) (by rfl)) (pss_cons (ps_while PassesOwn.never (PW.pt (pw_and (pt_cmpR op_gt (pe_ix ix_tupT (pv 2) pe_int (fun _ _ => rfl)) pe_int (nomark _)) (pw_and1 (pt_cmpR op_gt (pe_ix ix_tupT (pv 2) pe_int (fun _ _ => rfl)) pe_int (nomark _))))) (Evl.pss_cut (ps_asg (pe_call (ok_parts_of T) hr (by rfl) T.g_parts_of T.F_parts_of.kp T.b_parts_of .nil passL (pa_cons (pv 2) pa_nil)) (pg_tupT (n := 3) rfl (pgs_cons (pg_name (i := 4) sc_operation_of.nd rfl (.inl rfl)) (pgs_cons (pg_name (i := 5) sc_operation_of.nd rfl (.inl rfl)) (pgs_cons (pg_name (i := 6) sc_operation_of.nd rfl (.inl rfl)) pgs_nil))))) (Evl.pss_cut (ps_set (i := 7) sc_operation_of.nd rfl (.inl rfl) (pe_callTy call_intB (by rfl) T.n_int (by decide +kernel) (pa_cons (pe_cmpR op_gt (pe_ix ix_tupT (pv 5) pe_int (fun _ _ => rfl)) pe_int (nomark _)) pa_nil))) (pss_cons (ps_if (pt_cmpR op_eq (pv 3) pe_int (nomark _)) (pss_one (ps_ret (pe_tup (pa_cons pe_str (pa_cons (pv 4) pa_nil))))) pss_nil) (Evl.pss_cut (ps_if (PW.pt (pw_and (pt_cmpR op_eq (pv 3) pe_int (nomark _)) (pw_and1 (pt_cmpR op_eq (pv 7) pe_int (nomark _))))) (pss_one (ps_ret (pe_tup (pa_cons pe_str pa_nil)))) pss_nil) (pss_cons (ps_aug (i := 3) sc_operation_of.nd rfl (.inl rfl) (pe_op op_add pe_int (pv 7)) ip_sub) (pss_one (ps_if (pt_cmpR op_lt (pv 3) (pe_ix ix_tupT (pv 5) pe_int (fun _ _ => rfl)) (nomark _)) (pss_one (ps_set (i := 2) sc_operation_of.nd rfl (.inl rfl) (pv 5))) (pss_one (ps_if (PW.pt (pw_and (pt_cmpR op_eq (pv 3) (pe_ix ix_tupT (pv 5) pe_int (fun _ _ => rfl)) (nomark _)) (pw_and1 (pt_cmpR op_eq (pv 7) pe_int (nomark _))))) (pss_one (ps_ret (pe_tup (pa_cons pe_str (pa_cons (pe_op op_add (pe_ix ix_tupT (pv 2) pe_int (fun _ _ => rfl)) (pv 4)) pa_nil))))) (pss_one (ps_if (pt_cmpR op_eq (pv 3) (pe_op op_add (pe_ix ix_tupT (pv 5) pe_int (fun _ _ => rfl)) (pv 7)) (nomark _)) (pss_one (ps_ret (pe_tup (pa_cons pe_str (pa_cons (pe_ix ix_tupT (pv 2) pe_int (fun _ _ => rfl)) pa_nil))))) (pss_one (ps_par (i := 2) (j := 3) (by rfl) sc_operation_of.nd rfl rfl (by decide) rfl rfl (pa_cons (pv 6) (pa_cons (pe_op op_sub (pe_op op_sub (pe_op op_sub (pv 3) (pe_ix ix_tupT (pv 5) pe_int (fun _ _ => rfl))) (pv 7)) pe_int) pa_nil)) (by rfl))))))))))))))) (pss_one (ps_ret (pe_call (ok_row_operation T) (hr.mono (by decide)) (by rfl) T.g_row_operation T.F_row_operation.kp T.b_row_operation .nil passL (pa_cons (pv 2) (pa_cons (pv 3) pa_nil))))))), ?_⟩)
  obtain ⟨_, _, rfl, a, b, n, s, i, rfl, rfl, ha, hb, i0, i1, q⟩ := h
  walk_at "rd"
  refine ⟨fun m σ H' => Ex H H' ∧ ∃ (l : Addr) (b' n' s' i' : Int) (x y z u : Option V), σ = [some (.ref a), some (.int i), some (.ref l), some (.int i'), x, y, z, u] ∧ H' l = some (.tup ((planT b' n' s').map V.int)) ∧ PB n' s' ∧ 0 ≤ i' ∧ i' < opsN n' s' ∧ opAt n' s' b' i' = opAt n s b i ∧ m = n'.toNat,
    ⟨_, .refl _, a, b, n, s, i, _, _, _, _, rfl, ha, hb, i0, i1, rfl, rfl⟩, ?_⟩
  rintro m σ H1 ⟨e1, l, b', n', s', i', x, y, z, u, rfl, hl, hb', j0, j1, eo, rfl⟩
  walk_at "rd"
  refine ⟨_, hl, _, atI_1, ?_⟩
  walk_at "rd"
  have row : (n' < 2 ∨ s' < 2) → sp_row_operation K [.ref l, .int i'] H1 Q E0 := fun h => by
    unfold sp_row_operation
    walk_at "rd"
    refine ⟨b', n', s', hl, hb'.1, j0, fun p H2 hp e2 h2 => q p H2 (Evl.fresh_back e1 hp) (e1.trans e2) ?_⟩
    rw [h2, ← eo, opAt_row h]
  refine ite2 (fun hn => ?_) fun hn => row (.inl (by omega))
  refine ⟨_, hl, _, atI_2, ?_⟩
  walk_at "rd"
  refine ite2 (fun hs => ?_) fun hs => row (.inr (by omega))
  have hn : 2 ≤ n' := by omega
  have hs : 2 ≤ s' := by omega
  obtain ⟨l1, l2, l3⟩ := loz_range hn hs
  have pr := hb'.rest hn hs
  have pa := hb'.ahead hn hs
  have ek := opsN_kp hn hs
  have eo2 := opAt_two (n := n') (s := s') (b := b') (i := i') hn hs
  refine ⟨fun σ' H'' => Ex H H'' ∧ ∃ (l : Addr) (b2 n2 s2 i2 : Int) (x y z u : Option V), σ' = [some (.ref a), some (.int i), some (.ref l), some (.int i2), x, y, z, u] ∧ H'' l = some (.tup ((planT b2 n2 s2).map V.int)) ∧ PB n2 s2 ∧ 0 ≤ i2 ∧ i2 < opsN n2 s2 ∧ opAt n2 s2 b2 i2 = opAt n s b i ∧ n2.toNat < n'.toNat,
    fun σ' H'' ⟨e, l, b2, n2, s2, i2, x, y, z, u, e1, e2, e3, e4, e5, e6, e7⟩ => ⟨_, e7, e, l, b2, n2, s2, i2, x, y, z, u, e1, e2, e3, e4, e5, e6, rfl⟩, ?_⟩
  refine Evl.q_cut (M := fun σ' H' => ∃ c d, σ' = [some (.ref a), some (.int i), some (.ref l), some (.int i'), some (.int (hiz n' s')), some (.ref c), some (.ref d), u] ∧ Ex H1 H' ∧ H' c = some (.tup ((planT (b' + hiz n' s') (n' - hiz n' s') (s' - 1)).map V.int)) ∧ H' d = some (.tup ((planT b' (hiz n' s') s').map V.int))) ?_ ?_
  · unfold sp_parts_of
    walk_at "rd"
    refine ⟨b', n', s', hl, hb', hn, hs, fun p c d H2 hp e2 h1 h2 h3 => ?_⟩
    simp only [h1]
    walk_at "rd"
    exact ⟨e2, h2, h3⟩
  rintro σ H2 ⟨c, d, rfl, e2, hc, hd⟩
  refine Evl.q_cut (M := fun σ' H' => σ' = [some (.ref a), some (.int i), some (.ref l), some (.int i'), some (.int (hiz n' s')), some (.ref c), some (.ref d), some (.int (kp n' s'))] ∧ H2 = H') ?_ ?_
  · walk_at "rd"
    refine ⟨_, hc, _, atI_1, ?_⟩
    walk_at "rd"
    unfold kp
    exact rfl
  rintro σ _ ⟨rfl, rfl⟩
  walk_at "rd"
  have hl2 := e2 _ _ hl
  have e12 := e1.trans e2
  have fin : ∀ (o : Op) (p2 : Addr), opAt n' s' b' i' = o → H2 p2 = none → Q (.ref p2) (upd H2 p2 (.tup (opV o))) := fun o p2 h hp2 =>
    q p2 _ (Evl.fresh_back e12 hp2) (e12.trans (exn hp2)) (by rw [upd_same, ← eo, h])
  refine ite2 (fun h p hp => fin (.go _) p (by rw [eo2, if_pos h]) hp) fun h0 => ?_
  rw [if_neg h0] at eo2
  refine Evl.q_cut (M := fun σ' H' => σ' = [some (.ref a), some (.int i), some (.ref l), some (.int i'), some (.int (hiz n' s')), some (.ref c), some (.ref d), some (.int (kp n' s'))] ∧ H2 = H' ∧ ¬ (i' = 1 ∧ kp n' s' = 1)) ?_ ?_
  · walk_at "rd"
    refine ite2 (fun h => ite2 (fun h' p hp => fin .keep p (by rw [eo2, if_pos ⟨h, h'⟩]) hp) fun h' => ?_) fun h => ?_
    · omega
    · omega
  rintro σ _ ⟨rfl, rfl, h1⟩
  rw [if_neg h1] at eo2
  walk_at "rd"
  simp only [hc, hl2, hd, planT]
  walk_at "rd"
  have k01 : kp n' s' = 0 ∨ kp n' s' = 1 := by unfold kp; split <;> simp
  have og := opsN_ge (n' - hiz n' s') (s' - 1) (by omega) (by omega)
  refine ite2 (fun h => ?_) fun h => ?_
  · rw [if_pos h] at eo2
    exact ⟨e12, pr, by omega, h, by rw [← eo2, eo], by omega⟩
  rw [if_neg h] at eo2
  have take : i' - (1 + kp n' s') = opsN (n' - hiz n' s') (s' - 1) + kp n' s' → ¬ (i' - (1 + kp n' s') = opsN (n' - hiz n' s') (s' - 1) ∧ kp n' s' = 1) → ∀ p, H2 p = none → Q (.ref p) (upd H2 p (.tup [.str "take", .int b'])) := fun h h' p hp =>
    fin (.take _) p (by rw [eo2, if_neg h', if_pos h]) hp
  have on : ¬ (i' - (1 + kp n' s') = opsN (n' - hiz n' s') (s' - 1) + kp n' s') → ¬ (i' - (1 + kp n' s') = opsN (n' - hiz n' s') (s' - 1) ∧ kp n' s' = 1) → Ex H H2 ∧ PB (hiz n' s') s' ∧ 0 ≤ i' - (1 + kp n' s') - opsN (n' - hiz n' s') (s' - 1) - kp n' s' - 1 ∧
      i' - (1 + kp n' s') - opsN (n' - hiz n' s') (s' - 1) - kp n' s' - 1 < opsN (hiz n' s') s' ∧ opAt (hiz n' s') s' b' (i' - (1 + kp n' s') - opsN (n' - hiz n' s') (s' - 1) - kp n' s' - 1) = opAt n s b i ∧ (hiz n' s').toNat < n'.toNat := fun h1 h2 =>
    ⟨e12, pa, by omega, by omega, by rw [← eo, eo2, if_neg h2, if_neg h1], by omega⟩
  refine ite2 (fun h1 => ite2 (fun h2 p hp => fin (.free _) p (by rw [eo2, if_pos ⟨h1, h2⟩]) hp) fun h2 => ite2 (fun h3 => take h3 (by omega)) fun h3 => on h3 (by omega)) fun h1 => ite2 (fun h3 => take h3 (by omega)) fun h3 => on h3 (by omega)
def sp_operation_count (K : PySem.W.Frag) : Sp := sp2 fun x y H Q _ => ∃ (n s : Int), x = .int n ∧ y = .int s ∧ PB n s ∧ ∀ H', Ex H H' → Q (.int (opsN n s)) H'
theorem sc_operation_count : FnScope ["length", "slots"] ["length", "slots"] (defScope s_operation_count) := ⟨rfl, rfl, rfl, by decide +kernel, rfl, by decide +kernel, by decide +kernel⟩
theorem ok_operation_count (T : Txt P w K mg base) : FnOk P w K mg base (L2.CX P w) 6 T.a_operation_count T.fd_operation_count ["length", "slots"] (sp_operation_count K) := by
  refine FunD.ok T.F_operation_count sc_operation_count (fun vs H Q E h => ar2 h) (fun cdv A fr s H vs Q E hr h => ⟨_, PSs.nox (pss_one (ps_ret (pe_ix ix_tupT (pe_call (ok_whole_plan T) hr (by rfl) T.g_whole_plan T.F_whole_plan.kp T.b_whole_plan .nil passL (pa_cons (pv 0) (pa_cons (pv 1) pa_nil))) pe_int (fun _ _ => rfl)))), ?_⟩)
  obtain ⟨_, _, rfl, n, s, rfl, rfl, hb, q⟩ := h
  unfold sp_whole_plan
  walk_at "rd"
  refine ⟨hb, fun p H2 hp e2 h2 => ?_⟩
  simp only [h2, planT]
  walk_at "rd"
  exact q _ e2
def sp_operation_at (K : PySem.W.Frag) : Sp := sp3 fun x y z H Q _ => ∃ (n s i : Int), x = .int n ∧ y = .int s ∧ z = .int i ∧ PB n s ∧ 0 ≤ i ∧ i < opsN n s ∧ ∀ p H', H p = none → Ex H H' → H' p = some (.tup (opV (opAt n s 0 i))) → Q (.ref p) H'
theorem sc_operation_at : FnScope ["length", "slots", "number", "plan"] ["length", "slots", "number"] (defScope s_operation_at) := ⟨rfl, rfl, rfl, by decide +kernel, rfl, by decide +kernel, by decide +kernel⟩
theorem ok_operation_at (T : Txt P w K mg base) : FnOk P w K mg base (L2.CX P w) 6 T.a_operation_at T.fd_operation_at ["length", "slots", "number"] (sp_operation_at K) := by
  refine FunD.ok T.F_operation_at sc_operation_at (fun vs H Q E h => ar3 h) (fun cdv A fr s H vs Q E hr h => ⟨_, PSs.nox (pss_cons (ps_set (i := 3) sc_operation_at.nd rfl (.inl rfl) (pe_call (ok_whole_plan T) hr (by rfl) T.g_whole_plan T.F_whole_plan.kp T.b_whole_plan .nil passL (pa_cons (pv 0) (pa_cons (pv 1) pa_nil)))) (pss_cons (ps_if (pt_not (pt_val (pe_call (ok_is_whole T) (hr.mono (by decide)) (by rfl) T.g_is_whole T.F_is_whole.kp T.b_is_whole .nil passL (pa_cons (pv 2) (pa_cons pe_int (pa_cons (pe_op op_sub (pe_ix ix_tupT (pv 3) pe_int (fun _ _ => rfl)) pe_int) pa_nil)))))) (pss_one ps_never) pss_nil) (pss_one (ps_ret (pe_call (ok_operation_of T) (hr.mono (by decide)) (by rfl) T.g_operation_of T.F_operation_of.kp T.b_operation_of .nil passL (pa_cons (pv 3) (pa_cons (pv 2) pa_nil))))))), ?_⟩)
  obtain ⟨_, _, _, rfl, n, s, i, rfl, rfl, rfl, hb, i0, i1, q⟩ := h
  unfold sp_whole_plan sp_is_whole sp_operation_of
  walk_at "rd"
  refine ⟨hb, fun p H2 hp e2 h2 => ?_⟩
  simp only [h2]
  walk_at "rd"
  refine ⟨_, atI_5, ?_⟩
  walk_at "rd"
  refine ⟨some i, rfl, ?_⟩
  have e : whole (some i) 0 (opsN n s - 1) = true := by unfold whole; exact decide_eq_true ⟨i0, by omega⟩
  rw [e]
  exact iteTF ⟨0, n, s, rfl, hb, i0, i1, fun p3 H3 hp3 e3 h3 => q p3 H3 (Evl.fresh_back e2 hp3) (e2.trans e3) h3⟩
/-! ### operations as data -/
def opD : Op → PyData
  | .go k => .tuple [.str "go", .int k]
  | .keep => .tuple [.str "keep"]
  | .take m => .tuple [.str "take", .int m]
  | .free m => .tuple [.str "free", .int m]
  | .back => .tuple [.str "back"]
theorem opD_dp {H : Hp} {a : Addr} {o : Op} (h : H a = some (.tup (opV o))) : Dp K H (.ref a) (opD o) := by
  cases o with
  | go k => exact .tup (sq_t h) (.cons (.str _) (.cons (.int _) .nil))
  | keep => exact .tup (sq_t h) (.cons (.str _) .nil)
  | take k => exact .tup (sq_t h) (.cons (.str _) (.cons (.int _) .nil))
  | free k => exact .tup (sq_t h) (.cons (.str _) (.cons (.int _) .nil))
  | back => exact .tup (sq_t h) (.cons (.str _) .nil)
theorem opD_fine {o : Op} (n : Nat) (h1 : 0 ≤ o.num) (h2 : o.num ≤ 10 ^ 40) : fine (n + 1) (opD o) = true := by
  have hM := med_200
  have l : o.num.natAbs.log2 < 1900 := med_log (by omega) (by omega)
  cases o with
  | go k => show (PyData.strOk "go" && (decide (k.natAbs.log2 < 1900) && true)) = true; rw [decide_eq_true (show k.natAbs.log2 < 1900 from l)]; decide +kernel
  | keep => show (PyData.strOk "keep" && true) = true; decide +kernel
  | take k => show (PyData.strOk "take" && (decide (k.natAbs.log2 < 1900) && true)) = true; rw [decide_eq_true (show k.natAbs.log2 < 1900 from l)]; decide +kernel
  | free k => show (PyData.strOk "free" && (decide (k.natAbs.log2 < 1900) && true)) = true; rw [decide_eq_true (show k.natAbs.log2 < 1900 from l)]; decide +kernel
  | back => show (PyData.strOk "back" && true) = true; decide +kernel
theorem op_rp {H : Hp} {S : Addr → Prop} {a : Addr} {o : Op} (m : S a) (h : H a = some (.tup (opV o))) : Rp H S (.ref a) (opD o) := by
  cases o with
  | go k => exact .tup m h (.cons (.str _) (.cons (.int _) .nil))
  | keep => exact .tup m h (.cons (.str _) .nil)
  | take k => exact .tup m h (.cons (.str _) (.cons (.int _) .nil))
  | free k => exact .tup m h (.cons (.str _) (.cons (.int _) .nil))
  | back => exact .tup m h (.cons (.str _) .nil)
theorem rp_op {H : Hp} {S : Addr → Prop} {v : V} {o : Op} (h : Rp H S v (opD o)) : ∃ a, v = .ref a ∧ S a ∧ H a = some (.tup (opV o)) := by
  cases o with
  | go k => cases h with | tup m e r => cases r with | cons r1 r => cases r1; cases r with | cons r1 r => cases r1; cases r; exact ⟨_, rfl, m, e⟩
  | keep => cases h with | tup m e r => cases r with | cons r1 r => cases r1; cases r; exact ⟨_, rfl, m, e⟩
  | take k => cases h with | tup m e r => cases r with | cons r1 r => cases r1; cases r with | cons r1 r => cases r1; cases r; exact ⟨_, rfl, m, e⟩
  | free k => cases h with | tup m e r => cases r with | cons r1 r => cases r1; cases r with | cons r1 r => cases r1; cases r; exact ⟨_, rfl, m, e⟩
  | back => cases h with | tup m e r => cases r with | cons r1 r => cases r1; cases r; exact ⟨_, rfl, m, e⟩
/-! lists of data in the heap -/
theorem gok_no {P : Program} {w : World} {K : PySem.W.Frag} {mg : Str → Option Value} {base : Heap} {C : CXT} {k : Nat} {f : Addr} {fd : FuncData} {ps : List Str} {sp : Sp} (h : ∀ vs H Q E, ¬ sp vs H Q E) : GOk P w K mg base C k f fd ps sp :=
  ⟨fun vs H Q E q => absurd q (h vs H Q E), fun A fr s H args us vs Q E _ _ _ _ _ q => absurd q (h vs H Q E)⟩
theorem fok_no {P : Program} {w : World} {K : PySem.W.Frag} {mg : Str → Option Value} {base : Heap} {C : CXT} {k : Nat} {f : Addr} {fd : FuncData} {ps : List Str} {sp : Sp} (h : ∀ vs H Q E, ¬ sp vs H Q E) : FnOk P w K mg base C k f fd ps sp :=
  ⟨fun vs H Q E q => absurd q (h vs H Q E), fun A fr s H args us vs Q E _ _ _ _ q => absurd q (h vs H Q E)⟩
def spNo : Sp := fun _ _ _ _ => False
theorem no_spNo : ∀ vs H Q E, ¬ spNo vs H Q E := fun _ _ _ _ h => h
theorem rp_cat {H : Hp} {S : Addr → Prop} {xs ys : List V} {ds es : List PyData} {p : Addr} (ha : RpA H S xs ds) (hb : RpA H S ys es) (hp : H p = none) (sp : S p) : Rp (upd H p (.lst (xs ++ ys))) S (.ref p) (.list (ds ++ es)) :=
  .lst sp upd_same ((ha.app hb).ex (exn hp))
theorem rp_list {H : Hp} {S : Addr → Prop} {v : V} {ds : List PyData} (h : Rp H S v (.list ds)) : ∃ a xs, v = .ref a ∧ S a ∧ H a = some (.lst xs) ∧ RpA H S xs ds ∧ xs.length = ds.length := by
  cases h with
  | lst m e r => exact ⟨_, _, rfl, m, e, r, r.len⟩
theorem fineAll_app {n : Nat} : ∀ {xs ys : List PyData}, fineAll n (xs ++ ys) = (fineAll n xs && fineAll n ys)
  | [], ys => rfl
  | x :: xs, ys => by
    show (fine n x && fineAll n (xs ++ ys)) = ((fine n x && fineAll n xs) && fineAll n ys)
    rw [fineAll_app, Bool.and_assoc]
theorem szAll_app : ∀ {xs ys : List PyData}, szAll (xs ++ ys) = szAll xs + szAll ys
  | [], ys => by simp [szAll]
  | x :: xs, ys => by
    show sz x + 2 + szAll (xs ++ ys) = (sz x + 2 + szAll xs) + szAll ys
    rw [szAll_app]
    omega
theorem fineAll_all {n : Nat} : ∀ {xs : List PyData}, (∀ x ∈ xs, fine n x = true) → fineAll n xs = true
  | [], _ => rfl
  | x :: xs, h => by
    show (fine n x && fineAll n xs) = true
    rw [h x (List.mem_cons_self ..), fineAll_all fun y hy => h y (List.mem_cons_of_mem _ hy)]
    rfl
theorem szAll_all {m : Nat} : ∀ {xs : List PyData}, (∀ x ∈ xs, sz x ≤ m) → szAll xs ≤ (m + 2) * xs.length
  | [], _ => Nat.le_refl _
  | x :: xs, h => by
    have a := h x (List.mem_cons_self ..)
    have b := szAll_all fun y hy => h y (List.mem_cons_of_mem _ hy)
    show sz x + 2 + szAll xs ≤ (m + 2) * (xs.length + 1)
    rw [Nat.mul_add, Nat.mul_one]
    omega
theorem opD_sz {o : Op} : sz (opD o) ≤ 3000 := by
  cases o <;> exact Nat.le_of_ble_eq_true rfl
theorem ops_fine {os : List Op} (h : ∀ o ∈ os, 0 ≤ o.num ∧ o.num ≤ 10 ^ 40) (hl : os.length ≤ 5000) : fine 20 (.list (os.map opD)) = true ∧ sz (.list (os.map opD)) ≤ 16000000 := by
  refine ⟨fineAll_all fun x hx => ?_, ?_⟩
  · obtain ⟨o, ho, rfl⟩ := List.mem_map.mp hx
    exact opD_fine 18 (h o ho).1 (h o ho).2
  · have := szAll_all (m := 3000) (xs := os.map opD) fun x hx => by
      obtain ⟨o, ho, rfl⟩ := List.mem_map.mp hx
      exact opD_sz
    rw [List.length_map] at this
    show szAll (os.map opD) + 3 ≤ _
    omega
/-! ### what is at hand and kept -/
def trF (t : TSt) (KL : Addr) : List (Str × V) := [("own_length", .int t.n), ("own_slots", .int t.s), ("own_hand", .int t.hand), ("own_kept", .ref KL), ("own_steps", .int t.steps), ("own_backs", .int t.backs)]
def Tr (K : PySem.W.Frag) (H : Hp) (T KL : Addr) (t : TSt) : Prop := (∃ dT, H T = some (.ins (He.ga K "Trace") dT (trF t KL))) ∧ H KL = some (.lst (t.kept.map V.int)) ∧ t.kept.length ≤ 1000
theorem inV_ints {h : Int} {ns : List Int} : inV (.int h) (ns.map V.int) = decide (h ∈ ns) := by
  induction ns with
  | nil => simp [inV]
  | cons n ns ih =>
    have e : eqV (.int n) (.int h) = decide (n = h) := rfl
    show (eqV (.int n) (.int h) || inV (.int h) (ns.map V.int)) = _
    rw [ih, e]
    by_cases q : n = h
    · subst q; simp
    · have q2 : ¬ h = n := fun z => q z.symm
      simp [q, q2]
theorem flat_ints {ns : List Int} : (ns.map V.int).all flatV = true := by
  induction ns with
  | nil => rfl
  | cons n ns ih => simp only [List.map_cons, List.all_cons, ih, Bool.and_true]; rfl
def sp_Trace___init__ (K : PySem.W.Frag) : Sp := sp3 fun x y z H Q _ => ∃ (T dT : Addr) (n s : Int), x = .ref T ∧ y = .int n ∧ z = .int s ∧ H T = some (.ins (He.ga K "Trace") dT []) ∧
  ∀ H' KL, But (· = T) H H' → H KL = none → Tr K H' T KL ⟨n, s, 0, [0], 0, 0⟩ → Q .non H'
theorem sc_Trace___init__ : FnScope ["self", "length", "slots"] ["self", "length", "slots"] (defScope s_Trace___init__) := ⟨rfl, rfl, rfl, by decide +kernel, rfl, by decide +kernel, by decide +kernel⟩
theorem ok_Trace___init__ (T : Txt P w K mg base) : FnOk P w K mg base (L2.CX P w) 1 T.a_Trace___init__ T.fd_Trace___init__ ["self", "length", "slots"] (sp_Trace___init__ K) := by
  refine FunD.ok T.F_Trace___init__ sc_Trace___init__ (fun vs H Q E h => ar3 h) (fun cdv A fr s H vs Q E hr h => ⟨_, PSs.nox (pss_cons (ps_fld (pv 0) (pv 1) rfl) (pss_cons (ps_fld (pv 0) (pv 2) rfl) (pss_cons (ps_fld (pv 0) pe_int rfl) (pss_cons (ps_fld (pv 0) (pe_lst (pa_cons pe_int pa_nil)) rfl) (pss_cons (ps_fld (pv 0) pe_int rfl) (pss_one (ps_fld (pv 0) pe_int rfl))))))), ?_⟩)
  obtain ⟨_, _, _, rfl, T0, dT, n, s, rfl, rfl, rfl, hT, q⟩ := h
  walk_at "rd"
  refine ⟨_, _, _, hT, T.c_Trace, T.n_Trace_own_length, (show 0 < 1000 by decide), T.c_Trace, T.n_Trace_own_slots, (show 1 < 1000 by decide), T.c_Trace, T.n_Trace_own_hand, (show 2 < 1000 by decide), fun p hp =>
    ⟨_, _, _, exn hp _ _ upd_same, T.c_Trace, T.n_Trace_own_kept, (show 3 < 1000 by decide), T.c_Trace, T.n_Trace_own_steps, (show 4 < 1000 by decide), T.c_Trace, T.n_Trace_own_backs, (show 5 < 1000 by decide), ?_⟩⟩
  have np : p ≠ T0 := fun z => by rw [z, upd_same] at hp; cases hp
  have bu : ∀ {H : Hp} {o : HO}, But (· = T0) H (upd H T0 o) := But.upd rfl
  have hp0 : H p = none := by rw [upd_ne np, upd_ne np, upd_ne np] at hp; exact hp
  refine q _ p ((((((bu.trans bu).trans bu).trans (But.ex (exn hp))).trans bu).trans bu).trans bu) hp0 ⟨⟨dT, upd_same⟩, ?_, by show 1 ≤ 1000; decide⟩
  rw [upd_ne np, upd_ne np, upd_ne np, upd_same]
  rfl
def sp_Trace_can_do (K : PySem.W.Frag) : Sp := sp2 fun x y H Q _ => ∃ (T KL a : Addr) (t : TSt) (o : Op), x = .ref T ∧ y = .ref a ∧ Tr K H T KL t ∧ H a = some (.tup (opV o)) ∧ Q (.bl (t.can o)) H
theorem sc_Trace_can_do : FnScope ["self", "operation"] ["self", "operation"] (defScope s_Trace_can_do) := ⟨rfl, rfl, rfl, by decide +kernel, rfl, by decide +kernel, by decide +kernel⟩
theorem ok_Trace_can_do (T : Txt P w K mg base) : FnOk P w K mg base (L2.CX P w) 1 T.a_Trace_can_do T.fd_Trace_can_do ["self", "operation"] (sp_Trace_can_do K) := by
  refine FunD.ok T.F_Trace_can_do sc_Trace_can_do (fun vs H Q E h => ar2 h) (fun cdv A fr s H vs Q E hr h => ⟨_, PSs.nox (pss_one (ps_match (pe_ix ix_tupT (pv 1) pe_int (fun _ _ => rfl)) (pc_word (pss_one (ps_ret (pe_cmpR op_lt (pe_op op_add (pe_fld (pv 0) rfl) (pe_ix ix_tupT (pv 1) pe_int (fun _ _ => rfl))) (pe_fld (pv 0) rfl) (nomark _)))) (pc_word (pss_one (ps_ret (pe_and (pe_cmpR (r := rIn K true) op_notIn_seq (pe_fld (pv 0) rfl) (pe_fld (pv 0) rfl) (by rfl)) (pe_one (pe_cmpR op_lt (pe_callB (r := rLenQ K) call_lenQ (by rfl) T.n_len (by decide +kernel) (pa_cons (pe_fld (pv 0) rfl) pa_nil)) (pe_fld (pv 0) rfl) (nomark _)))))) (pc_word (pss_one (ps_ret (pe_and (pe_cmpR op_lt (pe_fld (pv 0) rfl) (pe_fld (pv 0) rfl) (nomark _)) (pe_one (pe_cmpR op_eq (pe_fld (pv 0) rfl) (pe_op op_sub (pe_op op_sub (pe_fld (pv 0) rfl) pe_int) (pe_fld (pv 0) rfl)) (nomark _)))))) (pc_any (pss_one (ps_ret (pe_cmpR (r := rIn K false) op_in_seq (pe_ix ix_tupT (pv 1) pe_int (fun _ _ => rfl)) (pe_fld (pv 0) rfl) (by rfl)))))))))), ?_⟩)
  obtain ⟨_, _, rfl, T0, KL, a, t, o, rfl, rfl, ⟨⟨dT, hT⟩, hK, hl⟩, ha, q⟩ := h
  walk_at "rd"
  cases o with
  | go k =>
    refine ⟨_, ha, _, atI_0, _, rfl, iteY rfl ⟨_, _, _, hT, T.c_Trace, T.n_Trace_own_hand, _, rfl, _, ha, _, atI_1, _, rfl, _, rfl, _, _, _, hT, T.c_Trace, T.n_Trace_own_length, _, rfl, _, rfl, q⟩⟩
  | keep =>
    refine ⟨_, ha, _, atI_0, _, rfl, iteNo (by decide +kernel) (iteY rfl ⟨_, _, _, hT, T.c_Trace, T.n_Trace_own_hand, _, rfl, _, _, _, hT, T.c_Trace, T.n_Trace_own_kept, _, rfl, _, _, rfl, .inl (sq_l hK), rfl, flat_ints, ?_⟩)⟩
    have e : (!inV (.int t.hand) (t.kept.map V.int)) = decide (t.hand ∉ t.kept) := by rw [inV_ints]; simp
    refine ⟨decide (t.hand ∉ t.kept), by rw [← e]; rfl, ?_⟩
    by_cases hm : t.hand ∉ t.kept
    · have e2 : t.can .keep = decide (((t.kept.map V.int).length : Int) < t.s) := by
        unfold TSt.can
        rw [decide_eq_true hm, List.length_map]
        rfl
      rw [e2] at q
      rw [decide_eq_true hm]
      exact iteT ⟨_, _, _, hT, T.c_Trace, T.n_Trace_own_kept, _, rfl, _, rfl, _, .inl (sq_l hK), _, _, _, hT, T.c_Trace, T.n_Trace_own_slots, _, rfl, _, rfl, q⟩
    · have e2 : t.can .keep = false := by
        unfold TSt.can
        rw [decide_eq_false hm]
        rfl
      rw [e2] at q
      rw [decide_eq_false hm]
      exact iteF q
  | back =>
    refine ⟨_, ha, _, atI_0, _, rfl, iteNo (by decide +kernel) (iteNo (by decide +kernel) (iteY rfl ⟨_, _, _, hT, T.c_Trace, T.n_Trace_own_backs, _, rfl, _, _, _, hT, T.c_Trace, T.n_Trace_own_length, _, rfl, _, rfl, _, rfl, ?_⟩))⟩
    refine ite2 (fun h => ⟨_, _, _, hT, T.c_Trace, T.n_Trace_own_hand, _, rfl, _, _, _, hT, T.c_Trace, T.n_Trace_own_length, _, rfl, _, rfl, _, _, _, hT, T.c_Trace, T.n_Trace_own_backs, _, rfl, _, rfl, rfl, ?_⟩) fun h => ?_
    · have e2 : t.can .back = decide (V.int t.hand = V.int (t.n - 1 - t.backs)) := by
        unfold TSt.can
        rw [decide_eq_true h, Bool.true_and]
        exact decide_eq_decide.mpr ⟨fun z => by rw [z], fun z => V.int.inj z⟩
      rw [e2] at q
      exact q
    · have e2 : t.can .back = false := by
        unfold TSt.can
        rw [decide_eq_false h]
        rfl
      rw [e2] at q
      exact q
  | take m =>
    refine ⟨_, ha, _, atI_0, _, rfl, iteNo (by decide +kernel) (iteNo (by decide +kernel) (iteNo (by decide +kernel) ⟨_, ha, _, atI_1, _, _, _, hT, T.c_Trace, T.n_Trace_own_kept, _, rfl, _, _, rfl, .inl (sq_l hK), rfl, flat_ints, ?_⟩))⟩
    rw [if_neg (by decide), inV_ints]
    exact q
  | free m =>
    refine ⟨_, ha, _, atI_0, _, rfl, iteNo (by decide +kernel) (iteNo (by decide +kernel) (iteNo (by decide +kernel) ⟨_, ha, _, atI_1, _, _, _, hT, T.c_Trace, T.n_Trace_own_kept, _, rfl, _, _, rfl, .inl (sq_l hK), rfl, flat_ints, ?_⟩))⟩
    rw [if_neg (by decide), inV_ints]
    exact q
def sp_Trace_do (K : PySem.W.Frag) : Sp := sp2 fun x y H Q _ => ∃ (T KL a : Addr) (t : TSt) (o : Op), x = .ref T ∧ y = .ref a ∧ Tr K H T KL t ∧ t.kept.length ≤ 999 ∧ H a = some (.tup (opV o)) ∧ t.can o = true ∧ ∀ H', But (fun b => b = T ∨ b = KL) H H' → Tr K H' T KL (t.did o) → Q .non H'
theorem sc_Trace_do : FnScope ["self", "operation"] ["self", "operation"] (defScope s_Trace_do) := ⟨rfl, rfl, rfl, by decide +kernel, rfl, by decide +kernel, by decide +kernel⟩
theorem ok_Trace_do (T : Txt P w K mg base) : FnOk P w K mg base (L2.CX P w) 1 T.a_Trace_do T.fd_Trace_do ["self", "operation"] (sp_Trace_do K) := by
  refine FunD.ok T.F_Trace_do sc_Trace_do (fun vs H Q E h => ar2 h) (fun cdv A fr s H vs Q E hr h => ⟨_, PSs.nox (pss_one (ps_match (pe_ix ix_tupT (pv 1) pe_int (fun _ _ => rfl)) (pc_word (pss_cons (ps_fldaug (pv 0) (pe_ix ix_tupT (pv 1) pe_int (fun _ _ => rfl)) in_add) (pss_one (ps_fldaug (pv 0) (pe_ix ix_tupT (pv 1) pe_int (fun _ _ => rfl)) in_add))) (pc_word (pss_one (ps_expr (pe_bm PySem.F.plainAttrs_list PySem.F.slot_list_append PySem.F.type_list_append mt_append (pe_fld (pv 0) rfl) (pa_cons (pe_fld (pv 0) rfl) pa_nil)))) (pc_word (pss_one (ps_fldaug (pv 0) pe_int in_add)) (pc_word (pss_one (ps_fld (pv 0) (pe_ix ix_tupT (pv 1) pe_int (fun _ _ => rfl)) rfl)) (pc_any (pss_one (ps_expr (pe_remX rfl takes0 (pe_fld (pv 0) rfl) (pe_ix ix_tupT (pv 1) pe_int (fun _ _ => rfl)))))))))))), ?_⟩)
  obtain ⟨_, _, rfl, T0, KL, a, t, o, rfl, rfl, ⟨⟨dT, hT⟩, hK, hl⟩, hl2, ha, hc, q⟩ := h
  walk_at "rd"
  have nTK : KL ≠ T0 := fun z => by rw [z, hT] at hK; cases hK
  have nA : ∀ (u : HO) {xs : List V}, H a = some (.tup xs) → upd H T0 u a = some (.tup xs) := fun u xs h => by rw [upd_ne (fun z => by rw [z, hT] at h; cases h)]; exact h
  cases o with
  | go k =>
    refine ⟨_, ha, _, atI_0, _, rfl, iteY rfl ⟨_, _, _, hT, T.c_Trace, T.n_Trace_own_hand, _, rfl, _, ha, _, atI_1, _, rfl, _, rfl, _, _, hT, (show 6 < 1000 by decide), T.c_Trace, T.n_Trace_own_steps, _, rfl, _, nA _ ha, _, atI_1, _, rfl, _, rfl, (show 6 < 1000 by decide), ?_⟩⟩
    exact q _ ((But.upd (.inl rfl)).trans (But.upd (.inl rfl))) ⟨⟨dT, upd_same⟩, by rw [upd_ne nTK, upd_ne nTK]; exact hK, hl⟩
  | keep =>
    refine ⟨_, ha, _, atI_0, _, rfl, iteNo (by decide +kernel) (iteY rfl ⟨_, _, _, hT, T.c_Trace, T.n_Trace_own_kept, _, rfl, .inl ⟨rfl, _, sq_l hK⟩, _, _, _, hT, T.c_Trace, T.n_Trace_own_hand, _, rfl, _, rfl, _, hK, ?_, ?_⟩)⟩
    · rw [List.length_map]; omega
    · exact q _ (But.upd (.inr rfl)) ⟨⟨dT, by rw [upd_ne (Ne.symm nTK)]; exact hT⟩, by rw [upd_same]; show _ = some (HO.lst ((t.kept ++ [t.hand]).map V.int)); rw [List.map_append]; rfl, by show (t.kept ++ [t.hand]).length ≤ 1000; rw [List.length_append]; show t.kept.length + 1 ≤ 1000; omega⟩
  | back =>
    refine ⟨_, ha, _, atI_0, _, rfl, iteNo (by decide +kernel) (iteNo (by decide +kernel) (iteY rfl ⟨_, _, _, hT, T.c_Trace, T.n_Trace_own_backs, _, rfl, _, rfl, _, _, hT, (show 6 < 1000 by decide), ?_⟩))⟩
    exact q _ (But.upd (.inl rfl)) ⟨⟨dT, upd_same⟩, by rw [upd_ne nTK]; exact hK, hl⟩
  | take m =>
    refine ⟨_, ha, _, atI_0, _, rfl, iteNo (by decide +kernel) (iteNo (by decide +kernel) (iteNo (by decide +kernel) (iteY rfl ⟨_, ha, _, atI_1, _, _, _, hT, T.c_Trace, T.n_Trace_own_hand, (show 6 < 1000 by decide), ?_⟩)))⟩
    exact q _ (But.upd (.inl rfl)) ⟨⟨dT, upd_same⟩, by rw [upd_ne nTK]; exact hK, hl⟩
  | free m =>
    have hm : m ∈ t.kept := of_decide_eq_true hc
    refine ⟨_, ha, _, atI_0, _, rfl, iteNo (by decide +kernel) (iteNo (by decide +kernel) (iteNo (by decide +kernel) (iteNo (by decide +kernel) ⟨_, _, _, hT, T.c_Trace, T.n_Trace_own_kept, _, rfl, .inl ⟨rfl, _, sq_l hK⟩, _, ha, _, atI_1, _, rfl, _, _, rfl, hK, fun _ => ?_, fun h => absurd hm h⟩)))⟩
    exact q _ (But.upd (.inr rfl)) ⟨⟨dT, by rw [upd_ne (Ne.symm nTK)]; exact hT⟩, by rw [upd_same]; rfl, Nat.le_trans (List.length_erase_le ..) hl⟩
theorem nsx {a b : Str} (h : a ≠ b) : ¬ V.str a = V.str b := fun z => h (V.str.inj z)
theorem ops_keep {H H' : Hp} (k : ∀ a xs, H a = some (.tup xs) → H' a = some (.tup xs)) : ∀ {os : List Op} {ls : List V}, RpA H (fun _ => True) ls (os.map opD) → RpA H' (fun _ => True) ls (os.map opD)
  | [], _, .nil => .nil
  | o :: os, _, .cons h r => by
    obtain ⟨a, rfl, _, ha⟩ := rp_op h
    exact .cons (op_rp trivial (k _ _ ha)) (ops_keep k r)
theorem run_kept : ∀ (os : List Op) (t : TSt), (t.run os).kept.length ≤ t.kept.length + os.length
  | [], t => Nat.le_refl _
  | o :: os, t => by
    have h := run_kept os (t.did o)
    have h2 : (t.did o).kept.length ≤ t.kept.length + 1 := by
      cases o with
      | keep => show (t.kept ++ [t.hand]).length ≤ _; rw [List.length_append]; exact Nat.le_refl _
      | free m => show (t.kept.erase m).length ≤ _; have := List.length_erase_le (a := m) (l := t.kept); omega
      | _ => exact Nat.le_succ _
    show ((t.did o).run os).kept.length ≤ t.kept.length + (os.length + 1)
    omega
def t0S (n s : Int) : TSt := ⟨n, s, 0, [0], 0, 0⟩
def opOk : Op → Prop
  | .go k => 1 ≤ k ∧ k ≤ 10 ^ 30
  | .take m => 0 ≤ m ∧ m ≤ 10 ^ 30
  | .free m => 0 ≤ m ∧ m ≤ 10 ^ 30
  | _ => True
theorem opOk_num {o : Op} (h : opOk o) : 0 ≤ o.num ∧ o.num ≤ 10 ^ 30 := by
  cases o with
  | go k => obtain ⟨h1, h2⟩ := h; show 0 ≤ k ∧ k ≤ 10 ^ 30; omega
  | take k => exact h
  | free k => exact h
  | keep => exact ⟨Int.le_refl _, by decide⟩
  | back => exact ⟨Int.le_refl _, by decide⟩
theorem ns {a b : Str} (h : a ≠ b) : ¬ V.str a = V.str b := fun z => h (V.str.inj z)
theorem range_filter_map (p : Int → Bool) : ∀ l : List Int, ((List.range l.length).filter fun i => p (l.getD i 0)).map (fun i => l.getD i 0) = l.filter p
  | [] => rfl
  | a :: l => by
    have ih := range_filter_map p l
    rw [List.length_cons, List.range_succ_eq_map, List.filter_cons, List.filter_map, List.filter_cons]
    have e1 : ((List.range l.length).filter ((fun i => p ((a :: l).getD i 0)) ∘ Nat.succ)) = (List.range l.length).filter fun i => p (l.getD i 0) := rfl
    have e2 : ((((List.range l.length).filter fun i => p (l.getD i 0)).map Nat.succ).map fun i => (a :: l).getD i 0) = ((List.range l.length).filter fun i => p (l.getD i 0)).map fun i => l.getD i 0 := by
      rw [List.map_map]; rfl
    rw [e1]
    by_cases h : p a = true
    · rw [if_pos h, if_pos (show p ((a :: l).getD 0 0) = true from h), List.map_cons, e2, ih]; rfl
    · rw [if_neg h, if_neg (show ¬ p ((a :: l).getD 0 0) = true from h), e2, ih]
structure Gd (t : TSt) : Prop where
  n1 : 1 ≤ t.n
  n2 : t.n ≤ 10 ^ 30
  s1 : 1 ≤ t.s
  s2 : t.s ≤ 100
  h1 : 0 ≤ t.hand
  h2 : t.hand < t.n
  k : ∀ k ∈ t.kept, 0 ≤ k ∧ k < t.n
  nd : t.kept.Nodup
  b1 : 0 ≤ t.backs
  b2 : t.backs ≤ t.n
  st : 0 ≤ t.steps
theorem Gd.did {t : TSt} {o : Op} (h : Gd t) (c : t.can o = true) (ok : opOk o) : Gd (t.did o) := by
  cases o with
  | go k =>
    have c' : t.hand + k < t.n := of_decide_eq_true c
    have := ok.1
    exact ⟨h.n1, h.n2, h.s1, h.s2, by show 0 ≤ t.hand + k; have := h.h1; omega, c', h.k, h.nd, h.b1, h.b2, by show 0 ≤ t.steps + k; have := h.st; omega⟩
  | keep =>
    obtain ⟨c1, c2⟩ := Bool.and_eq_true_iff.mp c
    have c1 := of_decide_eq_true c1
    refine ⟨h.n1, h.n2, h.s1, h.s2, h.h1, h.h2, fun k hk => ?_, ?_, h.b1, h.b2, h.st⟩
    · rcases List.mem_append.mp hk with hk | hk
      · exact h.k k hk
      · rw [List.mem_singleton.mp hk]
        exact ⟨h.h1, h.h2⟩
    · show (t.kept ++ [t.hand]).Nodup
      rw [List.nodup_append]
      exact ⟨h.nd, List.nodup_cons.mpr ⟨List.not_mem_nil, List.nodup_nil⟩, fun a ha b hb e => c1 (by rw [List.mem_singleton] at hb; rw [← hb, ← e]; exact ha)⟩
  | back =>
    obtain ⟨c1, c2⟩ := Bool.and_eq_true_iff.mp c
    have c1 := of_decide_eq_true c1
    exact ⟨h.n1, h.n2, h.s1, h.s2, h.h1, h.h2, h.k, h.nd, by show 0 ≤ t.backs + 1; have := h.b1; omega, by show t.backs + 1 ≤ t.n; omega, h.st⟩
  | take m =>
    have c' := h.k m (of_decide_eq_true c)
    exact ⟨h.n1, h.n2, h.s1, h.s2, c'.1, c'.2, h.k, h.nd, h.b1, h.b2, h.st⟩
  | free m => exact ⟨h.n1, h.n2, h.s1, h.s2, h.h1, h.h2, fun k hk => h.k k (List.mem_of_mem_erase hk), h.nd.erase _, h.b1, h.b2, h.st⟩
theorem gd_run : ∀ {os : List Op} {t : TSt}, Gd t → t.ok os → (∀ o ∈ os, opOk o) → Gd (t.run os)
  | [], t, g, _, _ => g
  | o :: os, t, g, ok, nm => gd_run (os := os) (t := t.did o) (g.did ok.1 (nm o (List.mem_cons_self ..))) ok.2 fun o' h => nm o' (List.mem_cons_of_mem _ h)
theorem gd_0 {n s : Int} (n1 : 1 ≤ n) (n2 : n ≤ 10 ^ 30) (s1 : 1 ≤ s) (s2 : s ≤ 100) : Gd (t0S n s) :=
  ⟨n1, n2, s1, s2, Int.le_refl _, by show (0 : Int) < n; omega, fun k hk => by rw [List.mem_singleton.mp hk]; exact ⟨Int.le_refl _, by show (0 : Int) < n; omega⟩, List.nodup_cons.mpr ⟨List.not_mem_nil, List.nodup_nil⟩, Int.le_refl _, by show (0 : Int) ≤ n; omega, Int.le_refl _⟩
/-! ### operations, judged -/
def words : List (Str × V) := [("go", .int 1), ("keep", .non), ("take", .int 0), ("free", .int 0), ("back", .non)]
def isNum (lo : Int) : List PyData → Bool
  | [.int n] => decide (lo ≤ n ∧ n ≤ 1000000000000000000000000000000)
  | _ => false
def dInt : PyData → Option Int
  | .int n => some n
  | _ => none
def isOpR (z : Str) (r : List PyData) : Bool := match words.lookup z with
  | some .non => decide (r.length = 0)
  | some (.int lo) => isNum lo r
  | _ => false
def isOpD : List PyData → Bool
  | .str z :: r => isOpR z r
  | _ => false
theorem words_vals {z : Str} {v : V} (h : words.lookup z = some v) : v = .non ∨ v = .int 1 ∨ v = .int 0 := by
  have m : ∀ {l : List (Str × V)}, l.lookup z = some v → v ∈ l.map (·.2) := by
    intro l
    induction l with
    | nil => intro h; cases h
    | cons q l ih =>
      intro h
      rw [List.lookup_cons] at h
      by_cases e : (z == q.1) = true
      · rw [e] at h
        rw [← Option.some.inj h]
        exact List.mem_cons_self ..
      · rw [Bool.not_eq_true] at e
        rw [e] at h
        exact List.mem_cons_of_mem _ (ih h)
  have := m h
  simp only [words, List.map_cons, List.map_nil, List.mem_cons, List.not_mem_nil, or_false] at this
  rcases this with h | h | h | h | h <;> simp [h]
theorem eqv_nil {ds : List PyData} : PyData.eqv (.tuple ds) (.tuple []) = decide (ds = []) := by cases ds <;> rfl
theorem whole_dp {K : PySem.W.Frag} {H : Hp} {v : V} {d : PyData} (h : Dp K H v d) : IntOr K H v (dInt d) := by
  have ty := dp_ty h
  cases d with
  | int n => cases h; rfl
  | bool b => exact ⟨"bool", true, true, ty, by decide +kernel, by decide +kernel, rfl⟩
  | none => exact ⟨"NoneType", false, false, ty, by decide +kernel, by decide +kernel, rfl⟩
  | str x => exact ⟨"str", false, false, ty, by decide +kernel, by decide +kernel, rfl⟩
  | list x => exact ⟨"list", false, false, ty, by decide +kernel, by decide +kernel, rfl⟩
  | tuple x => exact ⟨"tuple", false, false, ty, by decide +kernel, by decide +kernel, rfl⟩
  | _ => cases h
def sp_is_operation (K : PySem.W.Frag) : Sp := sp1 fun v H Q _ => (∃ t, TyX K H v (.type t) ∧ kitB t "tuple" = some false ∧ Q (.bl false) H) ∨
  (∃ a xs ds, v = .ref a ∧ H a = some (.tup xs) ∧ DpAll K H xs ds ∧ fine 20 (.tuple ds) = true ∧ ∀ H', Ex H H' → Q (.bl (isOpD ds)) H')
theorem sc_is_operation : FnScope ["value"] ["value"] (defScope s_is_operation) := ⟨rfl, rfl, rfl, by decide +kernel, rfl, by decide +kernel, by decide +kernel⟩
theorem ok_is_operation (T : Txt P w K mg base) : FnOk P w K mg base (L2.CX P w) 3 T.a_is_operation T.fd_is_operation ["value"] (sp_is_operation K) := by
  refine FunD.ok T.F_is_operation sc_is_operation (fun vs H Q E h => ar1 h) (fun cdv A fr s H vs Q E hr h => ⟨_, PSs.nox (Evl.pss_cut (ps_if (PW.pt (pw_or (pt_not (pt_val (pe_callB (r := rIsi K) call_isi (by rfl) T.n_isinstance (by decide +kernel) (pa_cons (pv 0) (pa_cons (pe_bltn (v := .ty "tuple") (by rfl) T.n_tuple (by decide +kernel) rfl) pa_nil))))) (pw_or (pt_cmpR (r := rEqF K) (op_eqF hr) (pv 0) (pe_tup pa_nil) (nomark _)) (pw_or (pt_not (pt_val (pe_callB (r := rIsi K) call_isi (by rfl) T.n_isinstance (by decide +kernel) (pa_cons (pe_ix ix_tupT (pv 0) pe_int (fun _ _ => rfl)) (pa_cons (pe_bltn (v := .ty "str") (by rfl) T.n_str (by decide +kernel) rfl) pa_nil))))) (pw_or1 (pt_cmpR (op_notIn_wd T.wd_WORDS) (pe_ix ix_tupT (pv 0) pe_int (fun _ _ => rfl)) (pe_glob (v := .ref (He.ga K "WORDS")) (by rfl) T.g_WORDS rfl) (by rfl))))))) (pss_one (ps_ret pe_bl)) pss_nil) (Evl.pss_cut (ps_if (pt_cmpR op_isN (pe_ix (ix_wd T.wd_WORDS) (pe_glob (v := .ref (He.ga K "WORDS")) (by rfl) T.g_WORDS rfl) (pe_ix ix_tupT (pv 0) pe_int (fun _ _ => rfl)) (fun _ _ => rfl)) pe_non (nomark _)) (pss_one (ps_ret (pe_cmpR op_eq (pe_callB (r := rLenQ K) call_lenQ (by rfl) T.n_len (by decide +kernel) (pa_cons (pv 0) pa_nil)) pe_int (nomark _)))) pss_nil) (pss_one (ps_ret (pe_and (pe_cmpR op_eq (pe_callB (r := rLenQ K) call_lenQ (by rfl) T.n_len (by decide +kernel) (pa_cons (pv 0) pa_nil)) pe_int (nomark _)) (pe_one (pe_call (ok_is_whole T) hr (by rfl) T.g_is_whole T.F_is_whole.kp T.b_is_whole .nil passL (pa_cons (pe_ix ix_tupT (pv 0) pe_int (fun _ _ => rfl)) (pa_cons (pe_ix (ix_wd T.wd_WORDS) (pe_glob (v := .ref (He.ga K "WORDS")) (by rfl) T.g_WORDS rfl) (pe_ix ix_tupT (pv 0) pe_int (fun _ _ => rfl)) (fun _ _ => rfl)) (pa_cons (pe_glob (v := .int 1000000000000000000000000000000) (by rfl) T.c_MOST_LENGTH ⟨_, rfl⟩) pa_nil)))))))))), ?_⟩)
  obtain ⟨v, rfl, h⟩ := h
  rcases h with ⟨t, ty, kt, q⟩ | ⟨a, xs, ds, rfl, ha, hd, hf, q⟩
  · refine Evl.q_cut (M := fun σ' H' => False) ?_ (fun _ _ h => h.elim)
    walk_at "rd"
    exact ⟨v, .ty "tuple", .type t, .type "tuple", false, rfl, .ty _, ty, kit_ty kt, false, rfl, iteY rfl q⟩
  have hl := dpa_len hd
  refine Evl.q_cut (M := fun σ' H' => ∃ z r, σ' = [some (.ref a)] ∧ Ex H H' ∧ xs = .str z :: r ∧ (words.lookup z).isSome = true) ?_ ?_
  · walk_at "rd"
    refine ⟨_, .ty "tuple", .type "tuple", .type "tuple", true, rfl, .ty _, .base (.tup ha), kit_ty (by decide +kernel), true, rfl, iteNo (by decide) fun p hp => ?_⟩
    have e := exn (o := .tup []) hp
    refine ⟨_, .tup (sq_t (e _ _ ha)) (dpa_ex e hd), .tuple [], .tup (sq_t upd_same) .nil, hf, rfl, ?_⟩
    rw [eqv_nil]
    cases hd with
    | nil => exact iteY rfl (q _ e)
    | @cons v vs d ds h0 hr0 =>
    refine iteNo (by simp) ⟨_, e _ _ ha, _, atI_0, ?_⟩
    have ty := dp_ty (dp_ex e _ _ h0)
    have no : ∀ {t : String}, tyD d = t → kitB t "str" = some false → isOpD (d :: ds) = false → rIsi K [v, V.ty "str"] (upd H p (.tup [])) fun x H1 => ∃ c, x = V.bl c ∧ if c = false then Q (V.bl false) H1 else ∃ x, H1 a = some (HO.tup x) ∧ ∃ x_2, atI x 0 = some x_2 ∧ ∃ z, x_2 = V.str z ∧ if (List.lookup z words).isSome = false then Q (V.bl false) H1 else Ex H H1 ∧ ∃ x x_3, v :: vs = V.str x :: x_3 ∧ (List.lookup x words).isSome = true := fun {t} et k f => by
      rw [et] at ty
      refine ⟨_, .ty "str", .type t, .type "str", false, rfl, .ty _, ty, kit_ty k, false, rfl, iteY rfl ?_⟩
      have := q _ e
      rw [f] at this
      exact this
    cases h0 with
    | non => exact no rfl (by decide +kernel) rfl
    | bl b => exact no (t := "bool") rfl (by decide +kernel) rfl
    | int b => exact no (t := "int") rfl (by decide +kernel) rfl
    | lst _ _ => exact no (t := "list") rfl (by decide +kernel) rfl
    | tup _ _ => exact no (t := "tuple") rfl (by decide +kernel) rfl
    | str z =>
      refine ⟨_, .ty "str", .type "str", .type "str", true, rfl, .ty _, ty, kit_ty (by decide +kernel), true, rfl, iteNo (by decide) ⟨_, e _ _ ha, _, atI_0, z, rfl, ?_⟩⟩
      refine ite2 (fun h => ?_) fun h => ⟨e, z, _, rfl, (Bool.not_eq_false _).mp h⟩
      have := q _ e
      have h2 : words.lookup z = none := Option.not_isSome_iff_eq_none.mp (fun t => by rw [show (words.lookup z).isSome = false from h] at t; cases t)
      have e2 : isOpD (.str z :: ds) = false := by
        show isOpR z ds = false
        unfold isOpR
        rw [h2]
      rw [e2] at this
      exact this
  rintro σ H1 ⟨z, r, rfl, e1, rfl, hz⟩
  cases hd with
  | @cons v vs d ds h0 hr0 =>
  cases h0
  obtain ⟨v0, hv⟩ := Option.isSome_iff_exists.mp hz
  have ha1 := e1 _ _ ha
  have q1 := q H1 e1
  have eR : isOpD (.str z :: ds) = isOpR z ds := rfl
  rw [eR] at q1
  have ll : r.length = ds.length := dpa_len hr0
  refine Evl.q_cut (M := fun σ' H' => ∃ lo : Int, σ' = [some (.ref a)] ∧ H1 = H' ∧ words.lookup z = some (.int lo)) ?_ ?_
  · walk_at "rd"
    refine ⟨_, ha1, _, atI_0, z, rfl, v0, hv, ?_⟩
    rcases words_vals hv with rfl | rfl | rfl
    · refine iteY rfl ⟨_, .inr (sq_t ha1), ?_⟩
      have eI : isOpR z ds = decide (((V.str z :: r).length : Int) = 1) := by
        unfold isOpR
        rw [hv]
        show decide (ds.length = 0) = _
        rw [List.length_cons]
        exact decide_eq_decide.mpr ⟨fun h => by rw [ll, h]; rfl, fun h => by omega⟩
      rw [eI] at q1
      exact q1
    · exact iteNo (fun z => nomatch z) ⟨_, hv⟩
    · exact iteNo (fun z => nomatch z) ⟨_, hv⟩
  rintro σ _ ⟨lo, rfl, rfl, hv⟩
  unfold sp_is_whole
  walk_at "rd"
  refine ⟨_, .inr (sq_t ha1), ?_⟩
  have eI : isOpR z ds = isNum lo ds := by
    unfold isOpR
    rw [hv]
  rw [eI] at q1
  refine ite2 (fun h => ?_) fun h => ?_
  · have hl1 : r.length = 1 := by rw [List.length_cons] at h; omega
    obtain ⟨v1, rfl⟩ := List.length_eq_one_iff.mp hl1
    cases hr0 with
    | @cons _ _ d1 _ h1 h2 =>
    cases h2
    refine ⟨_, ha1, _, atI_1, _, ha1, _, atI_0, z, rfl, _, hv, _, whole_dp (dp_ex e1 _ _ h1), lo, rfl, ?_⟩
    cases d1 <;> exact q1
  · have e2 : isNum lo ds = false := by
      match ds, ll with
      | [], _ => rfl
      | [x], l => exact absurd (by rw [List.length_cons, l]; rfl) h
      | x :: y :: t, _ => cases x <;> rfl
    rw [e2] at q1
    exact q1
theorem tyx_ex {K : PySem.W.Frag} {H H' : Hp} {v : V} {t : Value} (e : Ex H H') (h : TyX K H v t) : TyX K H' v t := by
  cases h with
  | base b => cases b with
    | non => exact .base .non
    | bl y => exact .base (.bl y)
    | int y => exact .base (.int y)
    | str y => exact .base (.str y)
    | flt y => exact .base (.flt y)
    | lst h => exact .base (.lst (e _ _ h))
    | frz h => exact .base (.frz (e _ _ h))
    | tup h => exact .base (.tup (e _ _ h))
    | dK h => exact .base (.dK (e _ _ h))
    | dT h => exact .base (.dT (e _ _ h))
    | ins h a b c d f => exact .base (.ins (e _ _ h) a b c d f)
  | byt b => exact .byt b
  | set h => exact .set (e _ _ h)
  | kList h c => exact .kList h c
  | kTuple h c => exact .kTuple h c
  | kDict h c => exact .kDict h c
  | fTuple h => exact .fTuple (e _ _ h)
  | fDict h => exact .fDict (e _ _ h)
theorem ior_ex {K : PySem.W.Frag} {H H' : Hp} {v : V} {o : Option Int} (e : Ex H H') (h : IntOr K H v o) : IntOr K H' v o := by
  cases o with
  | some n => exact h
  | none =>
    obtain ⟨t, b1, b2, ty, k⟩ := h
    exact ⟨t, b1, b2, tyx_ex e ty, k⟩
theorem good_up {k k' m m' : Nat} {d : PyData} (h : Good k m d) (hk : k ≤ k') (hm : m ≤ m') : Good k' m' d := ⟨h.1, Nat.le_trans h.2.1 hk, Nat.le_trans h.2.2 hm⟩
/-- what is asked of an item of a list of operations: whether it is one -/
inductive It (K : PySem.W.Frag) (H : Hp) : V → Bool → Prop
  | no {v : V} {t : String} : TyX K H v (.type t) → kitB t "tuple" = some false → It K H v false
  | tup {a : Addr} {xs : List V} {ds : List PyData} : H a = some (.tup xs) → DpAll K H xs ds → fine 20 (.tuple ds) = true → It K H (.ref a) (isOpD ds)
theorem It.ex {H H' : Hp} {v : V} {b : Bool} (e : Ex H H') (h : It K H v b) : It K H' v b := by
  cases h with
  | no t k => exact .no (tyx_ex e t) k
  | tup h d f => exact .tup (e _ _ h) (dpa_ex e d) f
def Its (K : PySem.W.Frag) (H : Hp) (xs : List V) (bs : List Bool) : Prop := xs.length = bs.length ∧ ∀ (i : Nat) x b, xs[i]? = some x → bs[i]? = some b → It K H x b
theorem Its.ex {H H' : Hp} {xs : List V} {bs : List Bool} (e : Ex H H') (h : Its K H xs bs) : Its K H' xs bs := ⟨h.1, fun i x b h1 h2 => (h.2 i x b h1 h2).ex e⟩
/-- what require_operations wishes of a value -/
def ReqQ (K : PySem.W.Frag) (H : Hp) (v : V) (Q : VK) (E : XK) : Prop :=
  (∃ t, TyX K H v (.type t) ∧ kitB t "list" = some false ∧ ∀ H' d, Ex H H' → H d = none → H' d = some (.xd [("item", .non)]) → E (.ref (eC K 0)) (some d) H') ∨
  (∃ a xs bs, v = .ref a ∧ H a = some (.lst xs) ∧ Its K H xs bs ∧ (400 < xs.length → ∀ H' d, Ex H H' → H d = none → H' d = some (.xd [("item", .non)]) → E (.ref (eC K 0)) (some d) H') ∧
    (xs.length ≤ 400 → ∀ i : Nat, bs[i]? = some false → (∀ j : Nat, j < i → bs[j]? = some true) → ∀ H' d, Ex H H' → H d = none → H' d = some (.xd [("item", .int i)]) → E (.ref (eC K 0)) (some d) H') ∧
    (xs.length ≤ 400 → (∀ b ∈ bs, b = true) → ∀ H', Ex H H' → Q .non H'))
theorem ReqQ.ex {H H1 : Hp} {v : V} {Q : VK} {E : XK} (e : Ex H H1) (h : ReqQ K H v Q E) : ReqQ K H1 v Q E := by
  rcases h with ⟨t, ty, k, q⟩ | ⟨a, xs, bs, rfl, ha, hi, q1, q2, q3⟩
  · exact .inl ⟨t, tyx_ex e ty, k, fun H' d e' n h => q H' d (e.trans e') (Evl.fresh_back e n) h⟩
  · exact .inr ⟨a, xs, bs, rfl, e _ _ ha, hi.ex e, fun l H' d e' n h => q1 l H' d (e.trans e') (Evl.fresh_back e n) h, fun l i b j H' d e' n h => q2 l i b j H' d (e.trans e') (Evl.fresh_back e n) h, fun l b H' e' => q3 l b H' (e.trans e')⟩
def sp_require_operations (K : PySem.W.Frag) : Sp := sp1 fun v H Q E => ReqQ K H v Q E
theorem sc_require_operations : FnScope ["value", "item", "operation"] ["value"] (defScope s_require_operations) := ⟨rfl, rfl, rfl, by decide +kernel, rfl, by decide +kernel, by decide +kernel⟩
theorem ok_require_operations (T : Txt P w K mg base) : FnOk P w K mg base (L2.CX P w) 4 T.a_require_operations T.fd_require_operations ["value"] (sp_require_operations K) := by
  refine FunD.ok T.F_require_operations sc_require_operations (fun vs H Q E h => ar1 h) (fun cdv A fr s H vs Q E hr h => ⟨_, (Evl.pss_cut (ps_if (PW.pt (pw_or (pt_not (pt_val (pe_callB (r := rIsi K) call_isi (by rfl) T.n_isinstance (by decide +kernel) (pa_cons (pv 0) (pa_cons (pe_bltn (v := .ty "list") (by rfl) T.n_list (by decide +kernel) rfl) pa_nil))))) (pw_or1 (pt_cmpR op_gt (pe_callB (r := rLenQ K) call_lenQ (by rfl) T.n_len (by decide +kernel) (pa_cons (pv 0) pa_nil)) (pe_glob (v := .int 400) (by rfl) T.c_MOST_OPERATIONS_lists ⟨_, rfl⟩) (nomark _))))) (pss_one (ps_raise rfl (takes_of rfl rfl rfl rfl) (pmk_init T.i_0 (ok_InvalidOperations___init__ T) (hr.mono (by decide)) T.b_InvalidOperations___init__ (by rfl) (T.er.gl 0 (by decide)) (pa_cons pe_non pa_nil)))) pss_nil) (pss_one (ps_for (passes_of rfl) rfl (pi_enum (by rfl) T.n_enumerate (pa_cons (pv 0) pa_nil)) (pg_tupT (n := 2) rfl (pgs_cons (pg_name (i := 1) sc_require_operations.nd rfl (.inl rfl)) (pgs_cons (pg_name (i := 2) sc_require_operations.nd rfl (.inl rfl)) pgs_nil))) (pss_one (ps_if (pt_not (pt_val (pe_call (ok_is_operation T) hr (by rfl) T.g_is_operation T.F_is_operation.kp T.b_is_operation .nil passL (pa_cons (pv 2) pa_nil)))) (pss_one (ps_raise rfl (takes_of rfl rfl rfl rfl) (pmk_init T.i_0 (ok_InvalidOperations___init__ T) (hr.mono (by decide)) T.b_InvalidOperations___init__ (by rfl) (T.er.gl 0 (by decide)) (pa_cons (pv 1) pa_nil)))) pss_nil))))), ?_⟩)
  obtain ⟨v, rfl, h⟩ := h
  rcases h with ⟨t, ty, kt, q⟩ | ⟨a, xs, bs, rfl, ha, hi, q1, q2, q3⟩
  · refine Evl.q_cut (M := fun σ' H' => False) ?_ (fun _ _ h => h.elim)
    walk_at "rd"
    refine ⟨v, .ty "list", .type t, .type "list", false, rfl, .ty _, ty, kit_ty kt, false, rfl, iteY rfl fun d hd => ?_⟩
    exact q _ d (exn hd) hd upd_same
  refine Evl.q_cut (M := fun σ' H' => σ' = [some (.ref a), none, none] ∧ H = H' ∧ xs.length ≤ 400) ?_ ?_
  · walk_at "rd"
    refine ⟨_, .ty "list", .type "list", .type "list", true, rfl, .ty _, .base (.lst ha), kit_ty (by decide +kernel), true, rfl, iteNo (by decide) ⟨_, .inl (sq_l ha), ?_⟩⟩
    refine ite2 (fun h d hd => q1 (by omega) _ d (exn hd) hd upd_same) fun h => ⟨rfl, by omega⟩
  rintro σ _ ⟨rfl, rfl, hl⟩
  simp only [tFor_enum]
  walk_at "rd"
  have lb := hi.1
  refine ⟨_, sq_l ha, forE_in (xs := xs) (fun i σ' H' => ∃ x y, σ' = [some (.ref a), x, y] ∧ Ex H H' ∧ ∀ j : Nat, j < i → bs[j]? = some true) ⟨_, _, rfl, .refl _, fun j h => by omega⟩ ?_ ?_ ?_⟩
  · rintro i σ' H' _ ⟨x, y, rfl, e, _⟩
    exact sq_l (e _ _ ha)
  · rintro σ' H' ⟨x, y, rfl, e, hj⟩
    refine q3 hl (fun b hb => ?_) H' e
    obtain ⟨j, hj2⟩ := List.mem_iff_getElem?.mp hb
    have := hj j (by have := (List.getElem?_eq_some_iff.mp hj2).1; omega)
    rw [hj2] at this
    exact Option.some.inj this
  · rintro i x T0 σ' H' hx ⟨y, z, rfl, e, hj⟩ hT
    have hil := (List.getElem?_eq_some_iff.mp hx).1
    have hb : bs[i]? = some bs[i] := List.getElem?_eq_getElem (by omega)
    have e1 := e.trans (exn (o := .tup [.int (i : Nat), x]) hT)
    have it := (hi.2 i x _ hx hb).ex e1
    unfold sp_is_operation
    walk_at "rd"
    generalize bs[i] = b at *
    have fin : ∀ H2, Ex H H2 → (if b = false then ∀ d, H2 d = none → E (.ref (eC K 0)) (some d) (upd H2 d (.xd [("item", .int i)])) else (Ex H H2 ∧ ∀ j : Nat, j < i + 1 → bs[j]? = some true)) := fun H2 e2 => by
      refine ite2 (fun h d hd => ?_) fun h => ⟨e2, fun j hj2 => ?_⟩
      · exact q2 hl i (by rw [hb, h]) hj _ d (e2.trans (exn hd)) (Evl.fresh_back e2 hd) upd_same
      · by_cases c : j = i
        · rw [c, hb]
          cases b <;> first | rfl | exact absurd rfl h
        · exact hj j (by omega)
    cases it with
    | no t k => exact .inl ⟨_, t, k, fin _ e1⟩
    | tup h1 h2 h3 =>
      exact .inr ⟨_, rfl, _, h1, _, h2, h3, fun H2 e2 => fin H2 (e1.trans e2)⟩
theorem isOp_opD {o : Op} (h : opOk o) : ∃ ds, opD o = .tuple ds ∧ isOpD ds = true := by
  have w : ∀ {z : Str} {lo n : Int}, words.lookup z = some (.int lo) → lo ≤ n → n ≤ 10 ^ 30 → isOpD [.str z, .int n] = true := fun hz h1 h2 => by
    show isOpR _ _ = true
    unfold isOpR
    rw [hz]
    exact decide_eq_true ⟨h1, by omega⟩
  cases o with
  | go k => exact ⟨_, rfl, w (z := "go") (lo := 1) (by decide +kernel) h.1 h.2⟩
  | keep => exact ⟨_, rfl, by decide +kernel⟩
  | take k => exact ⟨_, rfl, w (z := "take") (lo := 0) (by decide +kernel) h.1 h.2⟩
  | free k => exact ⟨_, rfl, w (z := "free") (lo := 0) (by decide +kernel) h.1 h.2⟩
  | back => exact ⟨_, rfl, by decide +kernel⟩
/-- what is_operation asks of an operation -/
theorem isOp_ask {H : Hp} {S : Addr → Prop} {v : V} {o : Op} (h : Rp H S v (opD o)) (ok : opOk o) : ∃ a xs ds, v = .ref a ∧ H a = some (.tup xs) ∧ DpAll K H xs ds ∧ fine 20 (.tuple ds) = true ∧ isOpD ds = true := by
  obtain ⟨ds, e, i⟩ := isOp_opD ok
  have nm := opOk_num ok
  have f := opD_fine (o := o) 19 nm.1 (by omega)
  rw [e] at h f
  cases h with
  | tup _ h a => exact ⟨_, _, _, rfl, h, a.dp, f, i⟩
/-! ### lists of operations, judged -/
def TSt.fw : TSt → List Op → Nat → Option Nat
  | _, [], _ => none
  | t, o :: os, i => if t.can o = true then TSt.fw (t.did o) os (i + 1) else some i
theorem fw_can {t : TSt} {o : Op} {os : List Op} {i : Nat} (c : t.can o = true) : t.fw (o :: os) i = (t.did o).fw os (i + 1) := if_pos c
theorem fw_not {t : TSt} {o : Op} {os : List Op} {i : Nat} (c : t.can o = false) : t.fw (o :: os) i = some i := if_neg (by rw [c]; decide)
theorem fw_ok : ∀ {os : List Op} {t : TSt} {i : Nat} {more : List Op}, t.ok os → t.fw (os ++ more) i = (t.run os).fw more (i + os.length)
  | [], t, i, more, _ => rfl
  | o :: os, t, i, more, h => by
    rw [List.cons_append, fw_can h.1, fw_ok h.2, show i + (o :: os).length = i + 1 + os.length by rw [List.length_cons]; omega]
    rfl
theorem fw_none : ∀ {os : List Op} {t : TSt} {i : Nat}, t.fw os i = none → t.ok os
  | [], _, _, _ => trivial
  | o :: os, t, i, h => by
    cases c : t.can o with
    | true => rw [fw_can c] at h; exact ⟨c, fw_none h⟩
    | false => rw [fw_not c] at h; cases h
theorem fw_lt : ∀ {os : List Op} {t : TSt} {i j : Nat}, t.fw os i = some j → i ≤ j ∧ j < i + os.length
  | [], _, _, _, h => by cases h
  | o :: os, t, i, j, h => by
    cases c : t.can o with
    | true =>
      rw [fw_can c] at h
      have := fw_lt h
      rw [List.length_cons]
      omega
    | false =>
      rw [fw_not c] at h
      cases h
      rw [List.length_cons]
      omega
def wrV : Option Nat → V
  | none => .non
  | some j => .int j
/-- a list of operations -/
def OpL (H : Hp) (a : Addr) (os : List Op) : Prop := ∃ ls, H a = some (.lst ls) ∧ RpA H (fun _ => True) ls (os.map opD) ∧ (∀ o ∈ os, opOk o) ∧ os.length ≤ 400
theorem OpL.ex {H H' : Hp} {a : Addr} {os : List Op} (e : Ex H H') (h : OpL H a os) : OpL H' a os := by
  obtain ⟨ls, h1, h2, h3⟩ := h
  exact ⟨ls, e _ _ h1, h2.ex e, h3⟩
theorem OpL.at_ {H : Hp} {os : List Op} {ls : List V} {i : Nat} {v : V} (rl : RpA H (fun _ => True) ls (os.map opD)) (hx : ls[i]? = some v) : ∃ o a, os[i]? = some o ∧ v = .ref a ∧ H a = some (.tup (opV o)) := by
  obtain ⟨d, hd, rp⟩ := rl.at' hx
  rw [List.getElem?_map] at hd
  obtain ⟨o, ho, rfl⟩ := Option.map_eq_some_iff.mp hd
  obtain ⟨b, rfl, _, hb⟩ := rp_op rp
  exact ⟨o, b, ho, rfl, hb⟩
def sp_require_list (K : PySem.W.Frag) : Sp := sp3 fun x y z H Q _ => ∃ (n s : Int) (a : Addr) (os : List Op), x = .int n ∧ y = .int s ∧ z = .ref a ∧ OpL H a os ∧ 1 ≤ n ∧ n ≤ 10 ^ 30 ∧ 1 ≤ s ∧ s ≤ 100 ∧ ∀ H', Ex H H' → Q .non H'
theorem sc_require_list : FnScope ["length", "slots", "operations"] ["length", "slots", "operations"] (defScope s_require_list) := ⟨rfl, rfl, rfl, by decide +kernel, rfl, by decide +kernel, by decide +kernel⟩
theorem ok_require_list (T : Txt P w K mg base) : FnOk P w K mg base (L2.CX P w) 5 T.a_require_list T.fd_require_list ["length", "slots", "operations"] (sp_require_list K) := by
  refine FunD.ok T.F_require_list sc_require_list (fun vs H Q E h => ar3 h) (fun cdv A fr s H vs Q E hr h => ⟨_, PSs.nox (pss_cons (ps_expr (pe_call (ok_require_task T) hr (by rfl) T.g_require_task T.F_require_task.kp T.b_require_task .nil passL (pa_cons (pv 0) (pa_cons (pv 1) pa_nil)))) (pss_one (ps_expr (pe_call (ok_require_operations T) hr (by rfl) T.g_require_operations T.F_require_operations.kp T.b_require_operations .nil passL (pa_cons (pv 2) pa_nil))))), ?_⟩)
  obtain ⟨_, _, _, rfl, n, s, a, os, rfl, rfl, rfl, ⟨ls, ha, rl, ok, lo⟩, n1, n2, s1, s2, q⟩ := h
  unfold sp_require_task sp_require_operations
  walk_at "rd"
  refine ⟨n1, by omega, s1, s2, .inr ⟨a, ls, List.replicate ls.length true, rfl, ha, ⟨by simp, fun i x b hx hb => ?_⟩, fun h => ?_, fun _ i h => ?_, fun _ _ => q⟩⟩
  · obtain ⟨d, hd, rp⟩ := rl.at' hx
    rw [List.getElem?_map] at hd
    obtain ⟨o, hoi, rfl⟩ := Option.map_eq_some_iff.mp hd
    obtain ⟨a, xs, ds, rfl, h1, h2, h3, h4⟩ := isOp_ask (K := K) rp (ok o (List.mem_of_getElem? hoi))
    have hb2 : b = true := List.eq_of_mem_replicate (List.mem_of_getElem? hb)
    rw [hb2, ← h4]
    exact .tup h1 h2 h3
  · have := rl.len
    rw [List.length_map] at this
    omega
  · have := List.eq_of_mem_replicate (List.mem_of_getElem? h)
    cases this
def sp_wrong_of (K : PySem.W.Frag) : Sp := sp3 fun x y z H Q _ => ∃ (n s : Int) (a : Addr) (os : List Op), x = .int n ∧ y = .int s ∧ z = .ref a ∧ OpL H a os ∧ ∀ H', Ex H H' → Q (wrV ((t0S n s).fw os 0)) H'
theorem sc_wrong_of : FnScope ["length", "slots", "operations", "trace", "number", "operation"] ["length", "slots", "operations"] (defScope s_wrong_of) := ⟨rfl, rfl, rfl, by decide +kernel, rfl, by decide +kernel, by decide +kernel⟩
theorem ok_wrong_of (T : Txt P w K mg base) : FnOk P w K mg base (L2.CX P w) 3 T.a_wrong_of T.fd_wrong_of ["length", "slots", "operations"] (sp_wrong_of K) := by
  refine FunD.ok T.F_wrong_of sc_wrong_of (fun vs H Q E h => ar3 h) (fun cdv A fr s H vs Q E hr h => ⟨_, PSs.nox (Evl.pss_cut (ps_set (i := 3) sc_wrong_of.nd rfl (.inl rfl) (pe_make T.k_Trace (ok_Trace___init__ T) hr (by rfl) T.g_Trace T.b_Trace___init__ .nil passL (pa_cons (pv 0) (pa_cons (pv 1) pa_nil)))) (pss_cons (ps_for PassesOwn.never rfl (pi_enum (by rfl) T.n_enumerate (pa_cons (pv 2) pa_nil)) (pg_tupT (n := 2) rfl (pgs_cons (pg_name (i := 4) sc_wrong_of.nd rfl (.inl rfl)) (pgs_cons (pg_name (i := 5) sc_wrong_of.nd rfl (.inl rfl)) pgs_nil))) (pss_cons (ps_if (pt_not (pt_val (pe_meth (pv 3) T.c_Trace T.m_Trace_can_do (ok_Trace_can_do T) (hr.mono (by decide)) T.b_Trace_can_do .nil passL (pa_cons (pv 5) pa_nil)))) (pss_one (ps_ret (pv 4))) pss_nil) (pss_one (ps_expr (pe_meth (pv 3) T.c_Trace T.m_Trace_do (ok_Trace_do T) (hr.mono (by decide)) T.b_Trace_do .nil passL (pa_cons (pv 5) pa_nil)))))) (pss_one (ps_ret pe_non)))), ?_⟩)
  obtain ⟨_, _, _, rfl, n, s, a, os, rfl, rfl, rfl, ⟨ls, ha, rl, ok, lo⟩, q⟩ := h
  have ll : ls.length = os.length := by rw [rl.len, List.length_map]
  refine Evl.q_cut (M := fun σ' H' => ∃ T' KL', σ' = [some (.int n), some (.int s), some (.ref a), some (.ref T'), none, none] ∧ Ex H H' ∧ H T' = none ∧ H KL' = none ∧ Tr K H' T' KL' (t0S n s)) ?_ ?_
  · unfold sp_Trace___init__
    walk_at "rd"
    intro T' dT hT hdT ne
    have e0 := (exn (o := .own T') hdT).trans (exn (o := .ins (He.ga K "Trace") dT []) (by rw [upd_ne (Ne.symm ne)]; exact hT))
    refine fun H' KL' b hK t => ⟨fun c o hc => b c o (fun z => by rw [z, hT] at hc; cases hc) (e0 _ _ hc), hT, KL', Evl.fresh_back e0 hK, t⟩
  rintro σ H1 ⟨T', KL', rfl, e1, nT, nK, tr⟩
  walk_at "rd"
  simp only [tFor_enum]
  walk_at "rd"
  have kl0 : (t0S n s).kept.length = 1 := rfl
  refine ⟨_, sq_l (e1 _ _ ha), forE_in (xs := ls) (fun i σ' H' => ∃ x y t', σ' = [some (.int n), some (.int s), some (.ref a), some (.ref T'), x, y] ∧ Ex H H' ∧ Tr K H' T' KL' t' ∧ t'.kept.length ≤ 1 + i ∧ (t0S n s).fw os 0 = t'.fw (os.drop i) i) ⟨none, none, _, rfl, e1, tr, Nat.le_refl _, rfl⟩ ?_ ?_ ?_⟩
  · rintro i σ' H' _ ⟨x, y, t', rfl, e, _⟩
    exact sq_l (e _ _ ha)
  · rintro σ' H' ⟨x, y, t', rfl, e, tr', _, pq⟩
    walk_at "rd"
    rw [pq, ll, List.drop_length] at q
    exact q H' e
  rintro i v T1 σ' H' hx ⟨x, y, t', rfl, e, tr', kl', pq⟩ hT1
  obtain ⟨o, b, hoi, rfl, hb⟩ := OpL.at_ rl hx
  have hi := (List.getElem?_eq_some_iff.mp hoi).1
  have eT := e.trans (exn (o := .tup [.int (i : Nat), .ref b]) hT1)
  have trT : Tr K (upd H' T1 (.tup [.int (i : Nat), .ref b])) T' KL' t' := by
    obtain ⟨⟨dT, hT⟩, hK, hk⟩ := tr'
    exact ⟨⟨dT, exn hT1 _ _ hT⟩, exn hT1 _ _ hK, hk⟩
  have hTu := upd_same (H := H') (a := T1) (o := .tup [.int (i : Nat), .ref b])
  have hbx := eT _ _ hb
  generalize upd H' T1 (.tup [.int (i : Nat), .ref b]) = Hx at *
  have pq2 : (t0S n s).fw os 0 = t'.fw (o :: os.drop (i + 1)) i := by
    rw [pq]
    congr 1
    rw [List.drop_eq_getElem_cons hi, (List.getElem?_eq_some_iff.mp hoi).2]
  unfold sp_Trace_can_do sp_Trace_do
  walk_at "rd"
  obtain ⟨⟨dT, hT⟩, hK⟩ := id trT
  refine ⟨_, hTu, rfl, _, _, rfl, _, _, rfl, rfl, ?_⟩
  refine ⟨_, _, hT, rfl, KL', _, rfl, t', trT, o, hbx, ?_⟩
  refine ite2 (fun h => ?_) fun h => ?_
  · rw [pq2, fw_not h] at q
    exact q Hx eT
  · have hc : t'.can o = true := by simpa using h
    refine ⟨_, _, hT, rfl, KL', _, rfl, t', trT, by omega, o, hbx, hc, fun H9 b9 t9 => ⟨?_, t'.did o, t9, ?_, ?_⟩⟩
    · intro c w hc
      exact b9 c w (fun z => z.elim (fun z => by rw [z, nT] at hc; cases hc) fun z => by rw [z, nK] at hc; cases hc) (eT _ _ hc)
    · have h2 := run_kept [o] t'
      have : t'.run [o] = t'.did o := rfl
      rw [this] at h2
      have : [o].length = 1 := rfl
      omega
    · rw [pq2, fw_can hc]
def sp_first_wrong (K : PySem.W.Frag) : Sp := sp3 fun x y z H Q _ => ∃ (n s : Int) (a : Addr) (os : List Op), x = .int n ∧ y = .int s ∧ z = .ref a ∧ OpL H a os ∧ 1 ≤ n ∧ n ≤ 10 ^ 30 ∧ 1 ≤ s ∧ s ≤ 100 ∧ ∀ H', Ex H H' → Q (wrV ((t0S n s).fw os 0)) H'
def sp_plan_list (K : PySem.W.Frag) : Sp := sp2 fun x y H Q E => ∃ (n s : Int), x = .int n ∧ y = .int s ∧ PB n s ∧ (opsN n s ≤ 400 → ∀ v H', Ex H H' → Rp H' (New H) v (.list ((opsL n s 0).map opD)) → Q v H') ∧
  (400 < opsN n s → ∀ H' d, Ex H H' → H d = none → H' d = some (.xd [("limit", .int 400)]) → E (.ref (eC K 4)) (some d) H')
theorem sc_plan_list : FnScope ["length", "slots", "plan", "number"] ["length", "slots"] (defScope s_plan_list) := ⟨rfl, rfl, rfl, by decide +kernel, rfl, by decide +kernel, by decide +kernel⟩
theorem ok_plan_list (T : Txt P w K mg base) : FnOk P w K mg base (L2.CX P w) 6 T.a_plan_list T.fd_plan_list ["length", "slots"] (sp_plan_list K) := by
  refine FunD.ok T.F_plan_list sc_plan_list (fun vs H Q E h => ar2 h) (fun cdv A fr s H vs Q E hr h => ⟨_, (Evl.pss_cut (ps_set (i := 2) sc_plan_list.nd rfl (.inr rfl) (pe_call (ok_whole_plan T) hr (by rfl) T.g_whole_plan T.F_whole_plan.kp T.b_whole_plan .nil passL (pa_cons (pv 0) (pa_cons (pv 1) pa_nil)))) (Evl.pss_cut (ps_if (pt_cmpR op_gt (pe_ix ix_tupT (pv 2) pe_int (fun _ _ => rfl)) (pe_glob (v := .int 400) (by rfl) T.c_MOST_LISTED ⟨_, rfl⟩) (nomark _)) (pss_one (ps_raise rfl (takes_of rfl rfl rfl rfl) (pmk_init T.i_4 (ok_TooLarge___init__ T) (hr.mono (by decide)) T.b_TooLarge___init__ (by rfl) (T.er.gl 4 (by decide)) (pa_cons (pe_glob (v := .int 400) (by rfl) T.c_MOST_LISTED ⟨_, rfl⟩) pa_nil)))) pss_nil) (pss_one (ps_ret (pe_lc (own := [("number", 3)]) rfl sc_plan_list.nd (pi_range1 (by rfl) T.n_range (pa_cons (pe_ix ix_tupT (pv 2) pe_int (fun _ _ => rfl)) pa_nil)) (blkOk_by (N := ["length", "slots", "plan", "number"]) (sc := defScope s_plan_list) (by decide +kernel)) (fun _ _ _ _ _ => (pg_name (i := 3) sc_plan_list.nd rfl (Or.inl rfl))) (fun _ _ _ _ _ => pts_nil) (fun _ _ _ _ _ => (pe_call (ok_operation_of T) (hr.mono (by decide)) (by rfl) T.g_operation_of T.F_operation_of.kp T.b_operation_of .nil passL (pa_cons (pv 2) (pa_cons (pv 3) pa_nil))))))))), ?_⟩)
  obtain ⟨_, _, rfl, n, s, rfl, rfl, hb, q1, q2⟩ := h
  have og := opsN_ge n s hb.1 hb.2.2.1
  refine Evl.q_cut (M := fun σ' H' => ∃ l : Addr, σ' = [some (.int n), some (.int s), some (.ref l), none] ∧ Ex H H' ∧ H' l = some (.tup ((planT 0 n s).map V.int))) ?_ ?_
  · unfold sp_whole_plan
    walk_at "rd"
    exact ⟨hb, fun p H2 hp e2 h2 => ⟨e2, h2⟩⟩
  rintro σ H1 ⟨l, rfl, e1, hl⟩
  refine Evl.q_cut (M := fun σ' H' => σ' = [some (.int n), some (.int s), some (.ref l), none] ∧ H1 = H' ∧ opsN n s ≤ 400) ?_ ?_
  · walk_at "rd"
    simp only [hl, planT]
    walk_at "rd"
    exact ite2 (fun h d hd => q2 h _ d (e1.trans (exn hd)) (Evl.fresh_back e1 hd) upd_same) fun h => by omega
  rintro σ _ ⟨rfl, rfl, ho⟩
  have n1 := hb.1
  have s1 := hb.2.2.1
  have hl' := opsL_len n s n1 s1 0
  walk_at "rd"
  refine lc_rng (n := (opsN n s).toNat) (fun i => opD (opAt n s 0 i)) (fun R q => ?_) (by omega) (fun _ => rfl) (fun i H2 hi e R k => ?_) ?_
  · walk_at "rd"
    simp only [hl, planT]
    walk_at "rd"
    rw [show (((opsN n s).toNat : Nat) : Int) = opsN n s by omega] at q
    exact q
  · simp only [wipe]
    unfold sp_operation_of
    walk_at "rd"
    exact ⟨0, n, s, e _ _ hl, hb, by omega, by omega, fun p H' hp e' h' => k _ H' e' (op_rp hp h')⟩
  · intro v H2 e2 hv
    have e : ((List.range (opsN n s).toNat).map fun (i : Nat) => opD (opAt n s 0 (i : Int))) = (opsL n s 0).map opD := by
      rw [← opsL_all n1 s1 0, List.map_map, show (opsL n s 0).length = (opsN n s).toNat by omega]
      rfl
    rw [e] at hv
    exact q1 ho v H2 (e1.trans e2) (hv.sub (new_ex e1))
/-! ### lists gone through -/
def sp_Trace_copied (K : PySem.W.Frag) : Sp := sp1 fun x H Q _ => ∃ (T KL : Addr) (t : TSt), x = .ref T ∧ Tr K H T KL t ∧ ∀ H' T' KL', Ex H H' → H T' = none → H KL' = none → Tr K H' T' KL' t → Q (.ref T') H'
theorem sc_Trace_copied : FnScope ["self", "found"] ["self"] (defScope s_Trace_copied) := ⟨rfl, rfl, rfl, by decide +kernel, rfl, by decide +kernel, by decide +kernel⟩
theorem ok_Trace_copied (T : Txt P w K mg base) : FnOk P w K mg base (L2.CX P w) 3 T.a_Trace_copied T.fd_Trace_copied ["self"] (sp_Trace_copied K) := by
  refine FunD.ok T.F_Trace_copied sc_Trace_copied (fun vs H Q E h => ar1 h) (fun cdv A fr s H vs Q E hr h => ⟨_, PSs.nox (Evl.pss_cut (ps_set (i := 1) sc_Trace_copied.nd rfl (.inl rfl) (pe_make T.k_Trace (ok_Trace___init__ T) hr (by rfl) T.g_Trace T.b_Trace___init__ .nil passL (pa_cons (pe_fld (pv 0) rfl) (pa_cons (pe_fld (pv 0) rfl) pa_nil)))) (pss_cons (ps_fld (pv 1) (pe_fld (pv 0) rfl) rfl) (pss_cons (ps_fld (pv 1) (pe_callTy call_list_of (by rfl) T.n_list (by decide +kernel) (pa_cons (pe_fld (pv 0) rfl) pa_nil)) rfl) (pss_cons (ps_fld (pv 1) (pe_fld (pv 0) rfl) rfl) (pss_cons (ps_fld (pv 1) (pe_fld (pv 0) rfl) rfl) (pss_one (ps_ret (pv 1)))))))), ?_⟩)
  obtain ⟨_, rfl, T0, KL, t, rfl, tr, q⟩ := h
  obtain ⟨⟨dT, hT⟩, hK, hl⟩ := id tr
  refine Evl.q_cut (M := fun σ' H' => ∃ T' KL', σ' = [some (.ref T0), some (.ref T')] ∧ Ex H H' ∧ H T' = none ∧ H KL' = none ∧ Tr K H' T' KL' (t0S t.n t.s)) ?_ ?_
  · unfold sp_Trace___init__
    walk_at "rd"
    refine ⟨_, _, _, hT, T.c_Trace, T.n_Trace_own_length, _, rfl, _, _, _, hT, T.c_Trace, T.n_Trace_own_slots, _, rfl, fun T' dT' hT' hdT' ne => ⟨_, _, rfl, _, rfl, rfl, fun H' KL' b hK t1 => ?_⟩⟩
    have e0 := (exn (o := .own T') hdT').trans (exn (o := .ins (He.ga K "Trace") dT' []) (by rw [upd_ne (Ne.symm ne)]; exact hT'))
    exact ⟨fun c o hc => b c o (fun z => by rw [z, hT'] at hc; cases hc) (e0 _ _ hc), hT', KL', Evl.fresh_back e0 hK, t1⟩
  rintro σ H1 ⟨T', KL', rfl, e1, nT, nK, tr1⟩
  obtain ⟨⟨dT', hT'⟩, hK', hl'⟩ := tr1
  have ne : T0 ≠ T' := fun z => by rw [z, nT] at hT; cases hT
  have nk : KL ≠ T' := fun z => by rw [z, nT] at hK; cases hK
  have hTa : ∀ {Hx : Hp} (o : HO), Hx T0 = some (.ins (He.ga K "Trace") dT (trF t KL)) → upd Hx T' o T0 = some (.ins (He.ga K "Trace") dT (trF t KL)) := fun o h => by rw [upd_ne ne]; exact h
  have hKa : ∀ (o : HO), upd H1 T' o KL = some (.lst (t.kept.map V.int)) := fun o => by rw [upd_ne nk]; exact e1 _ _ hK
  have hT1 := e1 _ _ hT
  walk_at "rd"
  refine ⟨_, _, _, hT1, T.c_Trace, T.n_Trace_own_hand, _, rfl, _, _, _, hT', T.c_Trace, T.n_Trace_own_hand, (show 6 < 1000 by decide), _, _, _, hTa _ hT1, T.c_Trace, T.n_Trace_own_kept, _, rfl, _, rfl, _, .inl (sq_l (hKa _)), fun l hl0 => ?_⟩
  have nl : l ≠ T' := fun z => by rw [z, upd_same] at hl0; cases hl0
  have hl1 : H1 l = none := by rw [upd_ne nl] at hl0; exact hl0
  refine ⟨_, _, _, exn hl0 _ _ upd_same, T.c_Trace, T.n_Trace_own_kept, (show 6 < 1000 by decide), _, _, _, hTa _ (exn hl0 _ _ (hTa _ hT1)), T.c_Trace, T.n_Trace_own_steps, _, rfl, T.c_Trace, T.n_Trace_own_steps, (show 6 < 1000 by decide), _, _, _, hTa _ (hTa _ (exn hl0 _ _ (hTa _ hT1))), T.c_Trace, T.n_Trace_own_backs, _, rfl, T.c_Trace, T.n_Trace_own_backs, (show 6 < 1000 by decide), ?_⟩
  refine q _ T' l (fun c o hc => ?_) nT (Evl.fresh_back e1 hl1) ⟨⟨dT', upd_same⟩, ?_, hl⟩
  · have nc : c ≠ T' := fun z => by rw [z, nT] at hc; cases hc
    have nc2 : c ≠ l := fun z => by rw [z, Evl.fresh_back e1 hl1] at hc; cases hc
    rw [upd_ne nc, upd_ne nc, upd_ne nc, upd_ne nc2, upd_ne nc]
    exact e1 _ _ hc
  · rw [upd_ne nl, upd_ne nl, upd_ne nl, upd_same]

def TrAll (K : PySem.W.Frag) (n s : Int) (F : Addr) (H : Hp) (us : List V) (os : List Op) : Prop := ∀ j, j < us.length → ∃ T KL, us[j]? = some (.ref T) ∧ T ≠ F ∧ KL ≠ F ∧ Tr K H T KL ((t0S n s).run (os.take j))
def Can (H : Hp) (x y z : V) (Pos : Int → Int → List Op → Prop) : Prop := ∃ (n s : Int) (a : Addr) (os : List Op), x = .int n ∧ y = .int s ∧ z = .ref a ∧ OpL H a os ∧ 1 ≤ n ∧ n ≤ 10 ^ 30 ∧ 1 ≤ s ∧ s ≤ 100 ∧ (t0S n s).ok os ∧ Pos n s os
theorem ok_fw {t : TSt} {os : List Op} {i : Nat} (h : t.ok os) : t.fw os i = none := by
  have := fw_ok (i := i) (more := []) h
  rw [List.append_nil] at this
  rw [this]
  rfl
def sp_traces_of (K : PySem.W.Frag) : Sp := sp3 fun x y z H Q E => Can H x y z fun n s os => ∀ H' F us T KL, Ex H H' → H' F = some (.lst (us ++ [.ref T])) → us.length = os.length → Tr K H' T KL ((t0S n s).run os) → TrAll K n s F H' (us ++ [.ref T]) os → Q (.ref F) H'
theorem sc_traces_of : FnScope ["length", "slots", "operations", "wrong", "found", "operation"] ["length", "slots", "operations"] (defScope s_traces_of) := ⟨rfl, rfl, rfl, by decide +kernel, rfl, by decide +kernel, by decide +kernel⟩
theorem ok_traces_of (T : Txt P w K mg base) : FnOk P w K mg base (L2.CX P w) 6 T.a_traces_of T.fd_traces_of ["length", "slots", "operations"] (sp_traces_of K) := by
  refine FunD.ok T.F_traces_of sc_traces_of (fun vs H Q E h => ar3 h) (fun cdv A fr s H vs Q E hr h => ⟨_, (Evl.pss_cut (ps_expr (pe_call (ok_require_list T) hr (by rfl) T.g_require_list T.F_require_list.kp T.b_require_list .nil passL (pa_cons (pv 0) (pa_cons (pv 1) (pa_cons (pv 2) pa_nil))))) (pss_cons (ps_set (i := 3) sc_traces_of.nd rfl (.inl rfl) (pe_call (ok_wrong_of T) (hr.mono (by decide)) (by rfl) T.g_wrong_of T.F_wrong_of.kp T.b_wrong_of .nil passL (pa_cons (pv 0) (pa_cons (pv 1) (pa_cons (pv 2) pa_nil))))) (Evl.pss_cut (ps_if (pt_cmpR op_notN (pv 3) pe_non (nomark _)) (pss_one (ps_raise rfl (takes_of rfl rfl rfl rfl) (pmk_init T.i_3 (ok_CannotDo___init__ T) (hr.mono (by decide)) T.b_CannotDo___init__ (by rfl) (T.er.gl 3 (by decide)) (pa_cons (pv 3) pa_nil)))) pss_nil) (Evl.pss_cut (ps_set (i := 4) sc_traces_of.nd rfl (.inl rfl) (pe_lst (pa_cons (pe_make T.k_Trace (ok_Trace___init__ T) (hr.mono (by decide)) (by rfl) T.g_Trace T.b_Trace___init__ .nil passL (pa_cons (pv 0) (pa_cons (pv 1) pa_nil))) pa_nil))) (pss_cons (ps_for (passes_of rfl) rfl (pi_list (pv 2)) (pg_name (i := 5) sc_traces_of.nd rfl (.inl rfl)) (pss_cons (ps_expr (pe_bm PySem.F.plainAttrs_list PySem.F.slot_list_append PySem.F.type_list_append mt_append (pv 4) (pa_cons (pe_meth0 (pe_ix (r := rIxL K) ix_list (pv 4) (pe_un un_neg pe_int) (fun _ _ => rfl)) T.c_Trace T.m_Trace_copied (ok_Trace_copied T) (hr.mono (by decide)) T.b_Trace_copied .nil passL) pa_nil))) (pss_one (ps_expr (pe_meth (pe_ix (r := rIxL K) ix_list (pv 4) (pe_un un_neg pe_int) (fun _ _ => rfl)) T.c_Trace T.m_Trace_do (ok_Trace_do T) (hr.mono (by decide)) T.b_Trace_do .nil passL (pa_cons (pv 5) pa_nil)))))) (pss_one (ps_ret (pv 4)))))))), ?_⟩)
  obtain ⟨_, _, _, rfl, n, s, a, os, rfl, rfl, rfl, ol, n1, n2, s1, s2, ok, q2⟩ := h
  have hw := ok_fw (i := 0) ok
  refine Evl.q_cut (M := fun σ' H' => σ' = [some (.int n), some (.int s), some (.ref a), none, none, none] ∧ Ex H H') ?_ ?_
  · unfold sp_require_list
    walk_at "rd"
    exact ⟨os, ol, n1, by omega, s1, s2, fun H' e => e⟩
  rintro σ H1 ⟨rfl, e1⟩
  unfold sp_wrong_of
  walk_at "rd"
  refine ⟨os, ol.ex e1, fun H2 e2 => ?_⟩
  have e12 := e1.trans e2
  rw [hw]
  refine Evl.q_cut (M := fun σ' H' => σ' = [some (.int n), some (.int s), some (.ref a), some .non, none, none] ∧ H2 = H') ?_ ?_
  · walk_at "rd"
    exact iteNo (fun z => z rfl) rfl
  rintro σ _ ⟨rfl, rfl⟩
  obtain ⟨ls, ha, rl, nm, lo⟩ := ol
  have ll : ls.length = os.length := by rw [rl.len, List.length_map]
  refine Evl.q_cut (M := fun σ' H' => ∃ F T' KL', σ' = [some (.int n), some (.int s), some (.ref a), some .non, some (.ref F), none] ∧ Ex H H' ∧ H F = none ∧ H' F = some (.lst [.ref T']) ∧ T' ≠ F ∧ KL' ≠ F ∧ Tr K H' T' KL' (t0S n s)) ?_ ?_
  · unfold sp_Trace___init__
    walk_at "rd"
    intro T' dT hT hdT ne
    have e0 := (exn (o := .own T') hdT).trans (exn (o := .ins (He.ga K "Trace") dT []) (by rw [upd_ne (Ne.symm ne)]; exact hT))
    refine fun H' KL' b hK t p hp => ?_
    have e3 : Ex H2 H' := fun c o hc => b c o (fun z => by rw [z, hT] at hc; cases hc) (e0 _ _ hc)
    obtain ⟨⟨dT2, hT2⟩, hK2, hl2⟩ := t
    have e4 := exn (o := .lst [.ref T']) hp
    exact ⟨(e12.trans e3).trans e4, Evl.fresh_back (e12.trans e3) hp, (fun z => by rw [z, hp] at hT2; cases hT2), KL', (fun z => by rw [z, hp] at hK2; cases hK2), ⟨dT2, e4 _ _ hT2⟩, e4 _ _ hK2, hl2⟩
  rintro σ H3 ⟨F, T', KL', rfl, e3, nF, hF, nT, nK, tr⟩
  unfold sp_Trace_copied sp_Trace_do
  walk_at "rd"
  simp only [tFor_lst]
  walk_at "rd"
  refine forL_in (xs := ls) (sq_l (e3 _ _ ha)) (fun i σ' H' => ∃ x us T', σ' = [some (.int n), some (.int s), some (.ref a), some .non, some (.ref F), x] ∧ Ex H H' ∧ H' F = some (.lst (us ++ [.ref T'])) ∧ us.length = i ∧ TrAll K n s F H' (us ++ [.ref T']) os) ⟨none, [], T', rfl, e3, hF, rfl, fun j hj => ?_⟩ ?_ ?_ ?_
  · have j0 : j = 0 := by simp only [List.nil_append, List.length_cons, List.length_nil] at hj; omega
    subst j0
    exact ⟨T', KL', rfl, nT, nK, tr⟩
  · rintro i σ' H' _ ⟨x, us, T', rfl, e, _⟩
    exact sq_l (e _ _ ha)
  · rintro σ' H' ⟨x, us, T', rfl, e, hF, lu, tra⟩
    walk_at "rd"
    obtain ⟨T, KL, hT, _, _, tr⟩ := tra us.length (by simp)
    have : T = T' := by simp at hT; exact hT.symm
    subst this
    rw [lu, ll, List.take_length] at tr
    exact q2 H' F us T KL e hF (by rw [lu, ll]) tr tra
  rintro i v σ' H4 hx ⟨x, us, T', rfl, e4, hF4, lu, tra⟩
  obtain ⟨o, b, hoi, rfl, hb⟩ := OpL.at_ rl hx
  have hi := (List.getElem?_eq_some_iff.mp hoi).1
  have last : ∀ (ws : List V) (v : V), atI (ws ++ [v]) (-1) = some v := fun ws v => atI_m1 (by simp)
  obtain ⟨T0, KL', hT0, _, _, tr⟩ := tra us.length (by simp)
  have : T0 = T' := by simp at hT0; exact hT0.symm
  subst this
  rw [lu] at tr
  walk_at "rd"
  obtain ⟨⟨dT, hT⟩, hKL⟩ := id tr
  refine ⟨⟨_, sq_l hF4⟩, _, sq_l hF4, _, last _ _, _, rfl, _, _, hT, rfl, _, rfl, _, _, tr, fun H5 T5 K5 e5 nT5 nK5 tr5 => ⟨_, e5 _ _ hF4, by simp only [List.length_append, List.length_cons, List.length_nil]; omega, ?_⟩⟩
  obtain ⟨⟨dT5, hT5⟩, hK5, hl5⟩ := id tr5
  have nFT : T5 ≠ F := fun z => by rw [z, hF4] at nT5; cases nT5
  have nFK : K5 ≠ F := fun z => by rw [z, hF4] at nK5; cases nK5
  have tr6 : ∀ {w : HO}, Tr K (upd H5 F w) T5 K5 ((t0S n s).run (os.take i)) := fun {w} => ⟨⟨dT5, by rw [upd_ne nFT]; exact hT5⟩, by rw [upd_ne nFK]; exact hK5, hl5⟩
  have kl := run_kept (os.take i) (t0S n s)
  have kl0 : (t0S n s).kept.length = 1 := rfl
  have li : (os.take i).length ≤ i := List.length_take_le ..
  have bF : b ≠ F := fun z => by rw [z, nF] at hb; cases hb
  refine ⟨_, sq_l upd_same, _, last _ _, _, rfl, _, _, tr6.1.choose_spec, rfl, _, rfl, _, _, tr6, by omega, o, by rw [upd_ne bF]; exact e5 _ _ (e4 _ _ hb), ok_at ok hoi, fun H7 b7 t7 => ?_⟩
  have hT0' := Evl.fresh_back e4 nT5
  have hK0' := Evl.fresh_back e4 nK5
  refine ⟨fun c w hc => ?_, us ++ [.ref T0], T5, b7 F _ (fun z => z.elim (fun z => nFT z.symm) fun z => nFK z.symm) upd_same, by rw [List.length_append, lu]; rfl, fun j hj => ?_⟩
  · refine b7 c w (fun z => z.elim (fun z => by rw [z, hT0'] at hc; cases hc) fun z => by rw [z, hK0'] at hc; cases hc) ?_
    rw [upd_ne (fun z => by rw [z, nF] at hc; cases hc)]
    exact e5 _ _ (e4 _ _ hc)
  · by_cases hj2 : j < us.length + 1
    · obtain ⟨Tj, Kj, hTj, nTj, nKj, ⟨⟨dj, trj⟩, kj, lj⟩⟩ := tra j (by simpa using hj2)
      have up : ∀ c w, c ≠ F → H4 c = some w → H7 c = some w := fun c w nc hc => b7 c w (fun z => z.elim (fun z => by rw [z, nT5] at hc; cases hc) fun z => by rw [z, nK5] at hc; cases hc) (by rw [upd_ne nc]; exact e5 _ _ hc)
      refine ⟨Tj, Kj, ?_, nTj, nKj, ⟨dj, up _ _ nTj trj⟩, up _ _ nKj kj, lj⟩
      rw [List.getElem?_append_left (by simpa using hj2)]
      exact hTj
    · have ej : j = i + 1 := by simp only [List.length_append, List.length_cons, List.length_nil] at hj; omega
      subst ej
      refine ⟨T5, K5, ?_, nFT, nFK, ?_⟩
      · rw [List.getElem?_append_right (by rw [List.length_append, lu]; exact Nat.le_refl _), List.length_append, lu]
        simp
      · rw [run_succ hoi]
        exact t7
def sp_Trace_steps (K : PySem.W.Frag) : Sp := sp1 fun x H Q _ => ∃ T KL t, x = .ref T ∧ Tr K H T KL t ∧ Q (.int t.steps) H
theorem sc_Trace_steps : FnScope ["self"] ["self"] (defScope s_Trace_steps) := ⟨rfl, rfl, rfl, by decide +kernel, rfl, by decide +kernel, by decide +kernel⟩
theorem ok_Trace_steps (T : Txt P w K mg base) : FnOk P w K mg base (L2.CX P w) 1 T.a_Trace_steps T.fd_Trace_steps ["self"] (sp_Trace_steps K) := by
  refine FunD.ok T.F_Trace_steps sc_Trace_steps (fun vs H Q E h => ar1 h) (fun cdv A fr s H vs Q E hr h => ⟨_, PSs.nox (pss_one (ps_ret (pe_fld (pv 0) rfl))), ?_⟩)
  obtain ⟨_, rfl, T0, KL, t, rfl, ⟨⟨dT, hT⟩, _⟩, q⟩ := h
  walk_at "rd"
  exact ⟨_, _, _, hT, T.c_Trace, T.n_Trace_own_steps, _, rfl, q⟩
def sp_Trace_backs (K : PySem.W.Frag) : Sp := sp1 fun x H Q _ => ∃ T KL t, x = .ref T ∧ Tr K H T KL t ∧ Q (.int t.backs) H
theorem sc_Trace_backs : FnScope ["self"] ["self"] (defScope s_Trace_backs) := ⟨rfl, rfl, rfl, by decide +kernel, rfl, by decide +kernel, by decide +kernel⟩
theorem ok_Trace_backs (T : Txt P w K mg base) : FnOk P w K mg base (L2.CX P w) 1 T.a_Trace_backs T.fd_Trace_backs ["self"] (sp_Trace_backs K) := by
  refine FunD.ok T.F_Trace_backs sc_Trace_backs (fun vs H Q E h => ar1 h) (fun cdv A fr s H vs Q E hr h => ⟨_, PSs.nox (pss_one (ps_ret (pe_fld (pv 0) rfl))), ?_⟩)
  obtain ⟨_, rfl, T0, KL, t, rfl, ⟨⟨dT, hT⟩, _⟩, q⟩ := h
  walk_at "rd"
  exact ⟨_, _, _, hT, T.c_Trace, T.n_Trace_own_backs, _, rfl, q⟩
def sp_Trace_hand (K : PySem.W.Frag) : Sp := sp1 fun x H Q _ => ∃ T KL t, x = .ref T ∧ Tr K H T KL t ∧ Q (.int t.hand) H
theorem sc_Trace_hand : FnScope ["self"] ["self"] (defScope s_Trace_hand) := ⟨rfl, rfl, rfl, by decide +kernel, rfl, by decide +kernel, by decide +kernel⟩
theorem ok_Trace_hand (T : Txt P w K mg base) : FnOk P w K mg base (L2.CX P w) 1 T.a_Trace_hand T.fd_Trace_hand ["self"] (sp_Trace_hand K) := by
  refine FunD.ok T.F_Trace_hand sc_Trace_hand (fun vs H Q E h => ar1 h) (fun cdv A fr s H vs Q E hr h => ⟨_, PSs.nox (pss_one (ps_ret (pe_fld (pv 0) rfl))), ?_⟩)
  obtain ⟨_, rfl, T0, KL, t, rfl, ⟨⟨dT, hT⟩, _⟩, q⟩ := h
  walk_at "rd"
  exact ⟨_, _, _, hT, T.c_Trace, T.n_Trace_own_hand, _, rfl, q⟩
def sp_Trace_kept (K : PySem.W.Frag) : Sp := sp1 fun x H Q _ => ∃ T KL t, x = .ref T ∧ Tr K H T KL t ∧ ∀ a zs H', Ex H H' → H a = none → H' a = some (.lst (List.map V.int zs)) → zs.length = t.kept.length → Q (.ref a) H'
theorem sc_Trace_kept : FnScope ["self"] ["self"] (defScope s_Trace_kept) := ⟨rfl, rfl, rfl, by decide +kernel, rfl, by decide +kernel, by decide +kernel⟩
theorem ok_Trace_kept (T : Txt P w K mg base) : FnOk P w K mg base (L2.CX P w) 1 T.a_Trace_kept T.fd_Trace_kept ["self"] (sp_Trace_kept K) := by
  refine FunD.ok T.F_Trace_kept sc_Trace_kept (fun vs H Q E h => ar1 h) (fun cdv A fr s H vs Q E hr h => ⟨_, PSs.nox (pss_one (ps_ret (pe_callB cr_sortedI (by rfl) T.n_sorted (by decide +kernel) (pa_cons (pe_fld (pv 0) rfl) pa_nil)))), ?_⟩)
  obtain ⟨_, rfl, T0, KL, t, rfl, ⟨⟨dT, hT⟩, hK, hl⟩, q⟩ := h
  walk_at "rd"
  exact ⟨_, _, _, hT, T.c_Trace, T.n_Trace_own_kept, _, rfl, KL, t.kept, rfl, sq_l hK, fun ns p pm _ hp => q p ns _ (exn hp) hp upd_same (by rw [pm.length_eq])⟩
def sp_steps_of (K : PySem.W.Frag) : Sp := sp3 fun x y z H Q E => Can H x y z fun n s os => ∀ H', Ex H H' → Q (.int ((t0S n s).run os).steps) H'
theorem sc_steps_of : FnScope ["length", "slots", "operations"] ["length", "slots", "operations"] (defScope s_steps_of) := ⟨rfl, rfl, rfl, by decide +kernel, rfl, by decide +kernel, by decide +kernel⟩
theorem ok_steps_of (T : Txt P w K mg base) : FnOk P w K mg base (L2.CX P w) 7 T.a_steps_of T.fd_steps_of ["length", "slots", "operations"] (sp_steps_of K) := by
  refine FunD.ok T.F_steps_of sc_steps_of (fun vs H Q E h => ar3 h) (fun cdv A fr s H vs Q E hr h => ⟨_, (pss_one (ps_ret (pe_prop (pe_ix (r := rIxL K) ix_list (pe_call (ok_traces_of T) hr (by rfl) T.g_traces_of T.F_traces_of.kp T.b_traces_of .nil passE (pa_cons (pv 0) (pa_cons (pv 1) (pa_cons (pv 2) pa_nil)))) (pe_un un_neg pe_int) (fun _ _ => rfl)) T.c_Trace T.p_Trace_steps (ok_Trace_steps T) (hr.mono (by decide)) T.b_Trace_steps .nil passL rfl))), ?_⟩)
  obtain ⟨_, _, _, rfl, n, s, a, os, rfl, rfl, rfl, ol, n1, n2, s1, s2, ok, q2⟩ := h
  unfold sp_traces_of
  walk_at "rd"
  refine ⟨n, s, a, os, rfl, rfl, rfl, ol, n1, n2, s1, s2, ok, fun H' F us T' KL' e hF lu tr _ => ?_⟩
  have last : ∀ (ws : List V) (v : V), atI (ws ++ [v]) (-1) = some v := fun ws v => atI_m1 (by simp)
  exact ⟨_, sq_l hF, _, last _ _, _, rfl, _, _, tr.1.choose_spec, _, rfl, T', KL', _, rfl, tr, q2 H' e⟩
def sp_backs_of (K : PySem.W.Frag) : Sp := sp3 fun x y z H Q E => Can H x y z fun n s os => ∀ H', Ex H H' → Q (.int ((t0S n s).run os).backs) H'
theorem sc_backs_of : FnScope ["length", "slots", "operations"] ["length", "slots", "operations"] (defScope s_backs_of) := ⟨rfl, rfl, rfl, by decide +kernel, rfl, by decide +kernel, by decide +kernel⟩
theorem ok_backs_of (T : Txt P w K mg base) : FnOk P w K mg base (L2.CX P w) 7 T.a_backs_of T.fd_backs_of ["length", "slots", "operations"] (sp_backs_of K) := by
  refine FunD.ok T.F_backs_of sc_backs_of (fun vs H Q E h => ar3 h) (fun cdv A fr s H vs Q E hr h => ⟨_, (pss_one (ps_ret (pe_prop (pe_ix (r := rIxL K) ix_list (pe_call (ok_traces_of T) hr (by rfl) T.g_traces_of T.F_traces_of.kp T.b_traces_of .nil passE (pa_cons (pv 0) (pa_cons (pv 1) (pa_cons (pv 2) pa_nil)))) (pe_un un_neg pe_int) (fun _ _ => rfl)) T.c_Trace T.p_Trace_backs (ok_Trace_backs T) (hr.mono (by decide)) T.b_Trace_backs .nil passL rfl))), ?_⟩)
  obtain ⟨_, _, _, rfl, n, s, a, os, rfl, rfl, rfl, ol, n1, n2, s1, s2, ok, q2⟩ := h
  unfold sp_traces_of
  walk_at "rd"
  refine ⟨n, s, a, os, rfl, rfl, rfl, ol, n1, n2, s1, s2, ok, fun H' F us T' KL' e hF lu tr _ => ?_⟩
  have last : ∀ (ws : List V) (v : V), atI (ws ++ [v]) (-1) = some v := fun ws v => atI_m1 (by simp)
  exact ⟨_, sq_l hF, _, last _ _, _, rfl, _, _, tr.1.choose_spec, _, rfl, T', KL', _, rfl, tr, q2 H' e⟩
def sp_extra_steps (K : PySem.W.Frag) : Sp := sp3 fun x y z H Q E => Can H x y z fun n s os => ((t0S n s).run os).backs = n ∧ ∀ H', Ex H H' → Q (.int (((t0S n s).run os).steps - tz n s)) H'
def sp_most_kept (K : PySem.W.Frag) : Sp := sp3 fun x y z H Q E => Can H x y z fun n s os => ∀ H' (m : Int), Ex H H' → (∃ j, j ≤ os.length ∧ m = (((t0S n s).run (os.take j)).kept.length : Int)) → Q (.int m) H'
theorem tFor_zip {K : PySem.W.Frag} {ta : TA} {g : TG} {tb : TS} {D : Ends} {σ : L2.St} {H : Hp} : tFor (iZip K ta) g tb D σ H = ta σ H fun us H1 => ∃ a b xs ys, us = [.ref a, .ref b] ∧ SqL K H1 a xs ∧ SqL K H1 b ys ∧ ForJ (Itz K a b) g tb D σ H1 := rfl
theorem forZ_in {K : PySem.W.Frag} {a b : Addr} {g : TG} {tb : TS} {D : Ends} {σ : L2.St} {H : Hp} {xs ys : List V} (n : Nat) (hn : n = min xs.length ys.length) (Pv : Nat → L2.St → Hp → Prop) (h0 : Pv 0 σ H) (hl : ∀ i σ' H', i ≤ n → Pv i σ' H' → SqL K H' a xs ∧ SqL K H' b ys) (hd : ∀ σ H, Pv n σ H → D.nx σ H)
    (hs : ∀ (i : Nat) x y T σ H, xs[i]? = some x → ys[i]? = some y → Pv i σ H → H T = none → g (.ref T) σ (upd H T (.tup [x, y])) fun σ2 H2 => tb { D with nx := Pv (i + 1), ct := Pv (i + 1), bk := D.nx } σ2 H2) : ForJ (Itz K a b) g tb D σ H := by
  refine for_it (walk_zip hn) Pv h0 hl ?_ hd
  rintro i x σ H H' hi p ⟨T, x1, y1, rfl, hT, rfl, h1, h2⟩
  exact hs i x1 y1 T σ H h1 h2 p hT
/-- how many goes of a list do a step -/
def TSt.cnt (x : Int) : TSt → List Op → Int
  | _, [] => 0
  | t, o :: os => (match o with | .go k => if t.hand ≤ x ∧ x < t.hand + k then 1 else 0 | _ => 0) + TSt.cnt x (t.did o) os
def sp_times_in (K : PySem.W.Frag) : Sp := sp4 fun x y z u H Q E => ∃ i : Int, u = .int i ∧ 0 ≤ i ∧ Can H x y z fun n s os => i < n - 1 ∧ ∀ H', Ex H H' → Q (.int ((t0S n s).cnt i os)) H'
/-! ### plans as lists -/
theorem cnt_cut (x : Int) : ∀ (os : List Op) (t : TSt) (c : Int), ((cutP x (goesP os c t.hand)).length : Int) = t.cnt x os
  | [], _, _ => rfl
  | .go k :: os, t, c => by
    have ih := cnt_cut x os (t.did (.go k)) (c + 1)
    show ((cutP x ((c, t.hand, t.hand + k) :: goesP os (c + 1) (t.hand + k))).length : Int) = (if t.hand ≤ x ∧ x < t.hand + k then 1 else 0) + (t.did (.go k)).cnt x os
    rw [← ih]
    by_cases h : t.hand ≤ x ∧ x < t.hand + k
    · rw [cutP_yes h, if_pos h, List.length_cons]
      show (((cutP x (goesP os (c + 1) (t.hand + k))).length + 1 : Nat) : Int) = 1 + ((cutP x (goesP os (c + 1) (t.hand + k))).length : Int)
      omega
    · rw [cutP_no h, if_neg h, Int.zero_add]
      rfl
  | .keep :: os, t, c => by
    show ((cutP x (goesP os (c + 1) t.hand)).length : Int) = 0 + (t.did .keep).cnt x os
    rw [← cnt_cut x os (t.did .keep) (c + 1), Int.zero_add]
    rfl
  | .back :: os, t, c => by
    show ((cutP x (goesP os (c + 1) t.hand)).length : Int) = 0 + (t.did .back).cnt x os
    rw [← cnt_cut x os (t.did .back) (c + 1), Int.zero_add]
    rfl
  | .take m :: os, t, c => by
    show ((cutP x (goesP os (c + 1) m)).length : Int) = 0 + (t.did (.take m)).cnt x os
    rw [← cnt_cut x os (t.did (.take m)) (c + 1), Int.zero_add]
    rfl
  | .free m :: os, t, c => by
    show ((cutP x (goesP os (c + 1) t.hand)).length : Int) = 0 + (t.did (.free m)).cnt x os
    rw [← cnt_cut x os (t.did (.free m)) (c + 1), Int.zero_add]
    rfl
theorem cnt_plan {n s x : Int} (hn : 1 ≤ n) (hs : 1 ≤ s) (h0 : 0 ≤ x) (h1 : x < n - 1) : (t0S n s).cnt x (opsL n s 0) = timesD n s x := by
  rw [← spots_len hn hs h0 h1, ← cnt_cut x (opsL n s 0) (t0S n s) 0]
  rfl
theorem plan_run {n s : Int} (hn : 1 ≤ n) (hs : 1 ≤ s) : ((t0S n s).run (opsL n s 0)).steps = tz n s ∧ ((t0S n s).run (opsL n s 0)).backs = n := by
  rw [run_plan n s hn hs 0 (t0S n s) rfl (fun k hk => by rw [List.mem_singleton.mp hk]; exact Int.le_refl _)]
  exact ⟨by show 0 + tz n s = _; omega, by show 0 + n = n; omega⟩
theorem plan_ok {n s : Int} (hn : 1 ≤ n) (hs : 1 ≤ s) : (t0S n s).ok (opsL n s 0) :=
  ok_plan n s hn hs 0 (t0S n s) (Int.le_refl _) rfl (.inr (List.mem_singleton.mpr rfl)) (fun k hk => by rw [List.mem_singleton.mp hk]; exact Int.le_refl _) (by show ((1 : Nat) : Int) + (s - 1) ≤ s; omega) (Int.le_refl _) (by show n = 0 + n + 0; omega)
theorem kept_le : ∀ {os : List Op} {t : TSt}, t.ok os → (t.kept.length : Int) ≤ t.s → ((t.run os).kept.length : Int) ≤ t.s
  | [], _, _, h => h
  | o :: os, t, ok, h => by
    have e : (t.did o).s = t.s := by cases o <;> rfl
    have h2 : ((t.did o).kept.length : Int) ≤ (t.did o).s := by
      rw [e]
      cases o with
      | keep =>
        have c := (Bool.and_eq_true_iff.mp ok.1).2
        have c := of_decide_eq_true c
        show ((t.kept ++ [t.hand]).length : Int) ≤ t.s
        rw [List.length_append, List.length_cons, List.length_nil]
        omega
      | free m =>
        show ((t.kept.erase m).length : Int) ≤ t.s
        have := List.length_erase_le (a := m) (l := t.kept)
        omega
      | _ => exact h
    have := kept_le (os := os) (t := t.did o) ok.2 h2
    rw [e] at this
    exact this
theorem ok_take {os : List Op} {t : TSt} (h : t.ok os) (j : Nat) : t.ok (os.take j) := by
  have := h
  rw [← List.take_append_drop j os, ok_app] at this
  exact this.1
theorem plan_kept {n s : Int} (hn : 1 ≤ n) (hs : 1 ≤ s) (j : Nat) : (((t0S n s).run ((opsL n s 0).take j)).kept.length : Int) ≤ s :=
  kept_le (t := t0S n s) (ok_take (plan_ok hn hs) j) (by show ((1 : Nat) : Int) ≤ s; omega)
theorem tms_row {n s : Int} (hn : 1 ≤ n) (hs : 1 ≤ s) (h : n < 2 ∨ s < 2) : Tms ((List.range (n - 1).toNat).map fun (i : Nat) => timesD n s (i : Int)) n s := by
  by_cases h1 : n = 1
  · subst h1
    exact Tms.one hs
  · have e : s = 1 := by omega
    subst e
    obtain ⟨k, rfl⟩ : ∃ k : Nat, n = (k : Int) + 1 := ⟨(n - 1).toNat, by omega⟩
    have := Tms.slot1 (k := k)
    rw [downL_range] at this
    rw [show ((k : Int) + 1 - 1).toNat = k by omega]
    have e2 : ((List.range k).map fun (i : Nat) => timesD ((k : Int) + 1) 1 (i : Int)) = (List.range k).map fun (i : Nat) => (k : Int) - (i : Int) := List.map_congr_left fun i _ => by rw [timesD_row h]; omega
    rw [e2]
    exact this
theorem range_three (a b : Nat) (f : Nat → Int) : (List.range (a + (1 + b))).map f = (List.range a).map f ++ [f a] ++ (List.range b).map fun i => f (a + (1 + i)) := by
  rw [List.range_add, List.map_append, List.range_add, List.map_append, List.map_append, List.map_map, List.map_map, List.map_map, List.append_assoc]
  rfl
theorem tms_plan : ∀ n s : Int, 1 ≤ n → 1 ≤ s → Tms ((List.range (n - 1).toNat).map fun (i : Nat) => timesD n s (i : Int)) n s := by
  refine plan_ind (fun n s hn hs h => tms_row hn hs h) fun n s hn hs ih1 ih2 => ?_
  obtain ⟨l1, l2, l3⟩ := loz_range hn hs
  have t := Tms.split (by omega) (by omega) l3 (hiz_best hn hs) ih2 ih1
  have e1 : (n - 1).toNat = (hiz n s - 1).toNat + (1 + (n - hiz n s - 1).toNat) := by omega
  rw [e1, range_three]
  have a1 : ((List.range (hiz n s - 1).toNat).map fun (i : Nat) => timesD n s (i : Int)) = ((List.range (hiz n s - 1).toNat).map fun (i : Nat) => timesD (hiz n s) s (i : Int)).map (· + 1) := by
    rw [List.map_map]
    refine List.map_congr_left fun i hi => ?_
    have hi := List.mem_range.mp hi
    show timesD n s (i : Int) = timesD (hiz n s) s (i : Int) + 1
    rw [timesD_two hn hs, if_neg (by omega), if_neg (by omega)]
    omega
  have a2 : timesD n s ((hiz n s - 1).toNat : Nat) = 1 := by
    rw [timesD_two hn hs, if_neg (by omega), if_pos (by omega)]
    rfl
  have a3 : ((List.range (n - hiz n s - 1).toNat).map fun (i : Nat) => timesD n s (((hiz n s - 1).toNat + (1 + i) : Nat) : Int)) = (List.range (n - hiz n s - 1).toNat).map fun (i : Nat) => timesD (n - hiz n s) (s - 1) (i : Int) := by
    refine List.map_congr_left fun i hi => ?_
    rw [timesD_two hn hs, if_pos (by omega)]
    congr 1
    omega
  rw [a1, a2, a3]
  exact t
/-! what plans keep ascends -/
def TSt.up (t : TSt) : Op → Prop
  | .go k => 1 ≤ k
  | .keep => ∀ k ∈ t.kept, k < t.hand
  | _ => True
def TSt.ups : TSt → List Op → Prop
  | _, [] => True
  | t, o :: os => t.up o ∧ TSt.ups (t.did o) os
theorem ups_app : ∀ (a b : List Op) (t : TSt), t.ups (a ++ b) ↔ t.ups a ∧ (t.run a).ups b
  | [], _, _ => ⟨fun h => ⟨trivial, h⟩, fun h => h.2⟩
  | o :: a, b, t => by
    show (_ ∧ TSt.ups (t.did o) (a ++ b)) ↔ ((_ ∧ TSt.ups (t.did o) a) ∧ _)
    rw [ups_app a b (t.did o), and_assoc]
    exact Iff.rfl
theorem ups_row (n b : Int) : ∀ (k : Nat) (t : TSt), t.ups (rowL n b k)
  | 0, t => ⟨trivial, trivial⟩
  | k + 1, t => ⟨by show 1 ≤ ((k + 1 : Nat) : Int); omega, trivial, trivial, ups_row n b k _⟩
theorem ups_plan : ∀ n s : Int, 1 ≤ n → 1 ≤ s → ∀ (b : Int) (t : TSt), t.hand = b → (∀ k ∈ t.kept, k ≤ b) → t.ups (opsL n s b) := by
  refine plan_ind (fun n s hn hs h b t ht hk => ?_) fun n s hn hs ih1 ih2 b t ht hk => ?_
  · rw [opsL_row h]
    exact ups_row n b _ t
  · obtain ⟨l1, l2, l3⟩ := loz_range hn hs
    rw [opsL_two hn hs]
    have t1h : (t.did (.go (hiz n s))).hand = b + hiz n s := by show t.hand + hiz n s = _; rw [ht]
    refine ⟨by show 1 ≤ hiz n s; omega, ?_⟩
    rw [ups_app, ups_app, ups_app]
    rcases kp_01 n s with k | k
    · have k' : ¬ kp n s = 1 := by omega
      rw [if_neg k', if_neg k']
      have k1 : ∀ k ∈ (t.did (.go (hiz n s))).kept, k ≤ b + hiz n s := fun k hk' => by have := hk k hk'; omega
      have r1 := run_plan (n - hiz n s) (s - 1) (by omega) (by omega) (b + hiz n s) (t.did (.go (hiz n s))) t1h k1
      refine ⟨⟨⟨trivial, ih1 _ _ t1h k1⟩, trivial⟩, trivial, ?_⟩
      rw [List.nil_append, List.append_nil, r1]
      exact ih2 b _ rfl hk
    · rw [if_pos k, if_pos k]
      have nk : b + hiz n s ∉ t.kept := fun z => by have := hk _ z; omega
      have c1 : ∀ k ∈ ((t.did (.go (hiz n s))).did .keep).kept, k ≤ b + hiz n s := fun k hk' => by
        have hk2 : k ∈ t.kept ++ [t.hand + hiz n s] := hk'
        rcases List.mem_append.mp hk2 with h | h
        · have := hk k h; omega
        · rw [List.mem_singleton.mp h, ht]; omega
      have r1 := run_plan (n - hiz n s) (s - 1) (by omega) (by omega) (b + hiz n s) ((t.did (.go (hiz n s))).did .keep) t1h c1
      refine ⟨⟨⟨⟨fun k hk' => ?_, trivial⟩, ih1 _ _ t1h c1⟩, trivial, trivial⟩, trivial, ?_⟩
      · have hk2 : k ∈ t.kept := hk'
        show k < t.hand + hiz n s
        have := hk k hk2
        omega
      · rw [run_app, run_app]
        show TSt.ups (((((t.did (.go (hiz n s))).did .keep).run (opsL (n - hiz n s) (s - 1) (b + hiz n s))).did (.free (b + hiz n s))).did (.take b)) (opsL (hiz n s) s b)
        rw [r1]
        have ek : ((((t.did (.go (hiz n s))).did .keep).past (b + hiz n s) (n - hiz n s) (s - 1)).did (.free (b + hiz n s))).kept = t.kept := by
          show (t.kept ++ [t.hand + hiz n s]).erase (b + hiz n s) = t.kept
          rw [ht]
          exact erase_last nk
        refine ih2 b _ rfl (fun k hk' => ?_)
        have hk2 : k ∈ ((((t.did (.go (hiz n s))).did .keep).past (b + hiz n s) (n - hiz n s) (s - 1)).did (.free (b + hiz n s))).kept := hk'
        rw [ek] at hk2
        exact hk k hk2
/-- ascending, each state one of the first n -/
def TSt.asc (t : TSt) : Prop := t.kept.Pairwise (· < ·)
theorem asc_did {t : TSt} {o : Op} (h : t.asc) (u : t.up o) : (t.did o).asc := by
  cases o with
  | keep =>
    show (t.kept ++ [t.hand]).Pairwise (· < ·)
    rw [List.pairwise_append]
    exact ⟨h, List.pairwise_singleton .., fun a ha b hb => by rw [List.mem_singleton.mp hb]; exact u a ha⟩
  | free m => exact h.sublist (List.erase_sublist ..)
  | go k => exact h
  | take m => exact h
  | back => exact h
theorem asc_nodup {t : TSt} (h : t.asc) : t.kept.Nodup := h.imp fun h e => by omega
/-- step by step -/
theorem ups_at : ∀ {os : List Op} {t : TSt} {i : Nat} {o : Op}, t.ups os → os[i]? = some o → (t.run (os.take i)).up o
  | [], t, i, o, _, h => by simp at h
  | a :: os, t, 0, o, k, h => by simp at h; subst h; exact k.1
  | a :: os, t, i + 1, o, k, h => by simp at h; exact ups_at (os := os) k.2 h
/-! where the backs are -/
def backsP : List Op → Int → List Int
  | [], _ => []
  | .back :: r, c => c :: backsP r (c + 1)
  | _ :: r, c => backsP r (c + 1)
theorem backsP_app : ∀ (l r : List Op) (c : Int), backsP (l ++ r) c = backsP l c ++ backsP r (c + l.length)
  | [], r, c => by show backsP r c = [] ++ backsP r (c + 0); rw [Int.add_zero]; rfl
  | o :: l, r, c => by
    have e : c + ((o :: l).length : Int) = c + 1 + (l.length : Int) := by rw [List.length_cons]; omega
    rw [e]
    cases o with
    | back => exact congrArg _ (backsP_app l r (c + 1))
    | go k => exact backsP_app l r (c + 1)
    | take m => exact backsP_app l r (c + 1)
    | keep => exact backsP_app l r (c + 1)
    | free m => exact backsP_app l r (c + 1)
theorem range_add_map {α : Type} (a b : Nat) (f : Nat → α) : (List.range (a + b)).map f = (List.range a).map f ++ (List.range b).map fun i => f (a + i) := by
  induction b with
  | zero => simp
  | succ b ih => rw [← Nat.add_assoc, List.range_succ, List.map_append, ih, List.range_succ, List.map_append, List.append_assoc]; rfl
theorem backs_row (n b : Int) : ∀ (k : Nat) (c : Int), backsP (rowL n b k) c = (List.range (k + 1)).map fun (j : Nat) => c + 3 * (j : Int) + if j < k then 1 else 0
  | 0, c => by
    show [c] = [c + 3 * ((0 : Nat) : Int) + if 0 < 0 then 1 else 0]
    rw [if_neg (by decide)]
    congr 1
    omega
  | k + 1, c => by
    show (c + 1) :: backsP (rowL n b k) (c + 1 + 1 + 1) = _
    rw [backs_row n b k, List.range_succ_eq_map (n := k + 1), List.map_cons, List.map_map]
    congr 1
    · rw [if_pos (by omega)]; omega
    · refine List.map_congr_left fun j _ => ?_
      show c + 1 + 1 + 1 + 3 * (j : Int) + (if j < k then 1 else 0) = c + 3 * ((j + 1 : Nat) : Int) + if j + 1 < k + 1 then 1 else 0
      by_cases h : j < k
      · rw [if_pos h, if_pos (by omega)]; omega
      · rw [if_neg h, if_neg (by omega)]; omega
theorem backs_plan : ∀ n s : Int, 1 ≤ n → 1 ≤ s → ∀ b c, backsP (opsL n s b) c = (List.range n.toNat).map fun (j : Nat) => c + backAt n s (n - 1 - (j : Int)) := by
  refine plan_ind (fun n s hn hs h b c => ?_) fun n s hn hs ih1 ih2 b c => ?_
  · rw [opsL_row h, backs_row, show (n - 1).toNat + 1 = n.toNat by omega]
    refine List.map_congr_left fun j hj => ?_
    have hj := List.mem_range.mp hj
    rw [backAt_row h, show n - 1 - (n - 1 - (j : Int)) = (j : Int) by omega]
    by_cases h : j < (n - 1).toNat
    · rw [if_pos h, if_pos (by omega)]; omega
    · rw [if_neg h, if_neg (by omega)]; omega
  · obtain ⟨l1, l2, l3⟩ := loz_range hn hs
    have len := opsL_len (n - hiz n s) (s - 1) (by omega) (by omega) (b + hiz n s)
    have e : n.toNat = (n - hiz n s).toNat + (hiz n s).toNat := by omega
    rw [e, range_add_map, opsL_two hn hs]
    have p1 : ∀ c', ((List.range (n - hiz n s).toNat).map fun (j : Nat) => c' + backAt (n - hiz n s) (s - 1) (n - hiz n s - 1 - (j : Int))) = (List.range (n - hiz n s).toNat).map fun (j : Nat) => c' - (1 + kp n s) + backAt n s (n - 1 - (j : Int)) := fun c' => by
      refine List.map_congr_left fun j hj => ?_
      have hj := List.mem_range.mp hj
      rw [backAt_two hn hs, if_pos (by omega), show n - 1 - (j : Int) - hiz n s = n - hiz n s - 1 - (j : Int) by omega]
      omega
    have p2 : ∀ c', ((List.range (hiz n s).toNat).map fun (j : Nat) => c' + backAt (hiz n s) s (hiz n s - 1 - (j : Int))) = (List.range (hiz n s).toNat).map fun (j : Nat) => c' - (2 + 2 * kp n s + opsN (n - hiz n s) (s - 1)) + backAt n s (n - 1 - (((n - hiz n s).toNat + j : Nat) : Int)) := fun c' => by
      refine List.map_congr_left fun j hj => ?_
      have hj := List.mem_range.mp hj
      rw [backAt_two hn hs, if_neg (by omega), show n - 1 - (((n - hiz n s).toNat + j : Nat) : Int) = hiz n s - 1 - (j : Int) by omega]
      omega
    show backsP (_ ++ _) (c + 1) = _
    rw [backsP_app, backsP_app, backsP_app]
    rcases kp_01 n s with k | k
    · have k' : ¬ kp n s = 1 := by omega
      rw [if_neg k', if_neg k', List.nil_append]
      show ([] ++ backsP (opsL (n - hiz n s) (s - 1) (b + hiz n s)) (c + 1 + 0)) ++ [] ++ backsP (opsL (hiz n s) s b) (_ + 1) = _
      rw [List.nil_append, List.append_nil, ih1, ih2, p1, p2, List.append_nil]
      congr 1
      · refine List.map_congr_left fun j _ => ?_
        omega
      · refine List.map_congr_left fun j _ => ?_
        omega
    · rw [if_pos k, if_pos k]
      show ([] ++ backsP (opsL (n - hiz n s) (s - 1) (b + hiz n s)) (c + 1 + 1)) ++ [] ++ backsP (opsL (hiz n s) s b) (_ + 1) = _
      rw [List.nil_append, List.append_nil, ih1, ih2, p1, p2]
      congr 1
      · refine List.map_congr_left fun j _ => ?_
        omega
      · refine List.map_congr_left fun j _ => ?_
        simp only [List.length_append, List.length_cons, List.length_nil]
        omega
theorem plan_opOk {n s : Int} (hn : 1 ≤ n) (hn2 : n ≤ 10 ^ 30) (hs : 1 ≤ s) : ∀ o ∈ opsL n s 0, opOk o := fun o ho => by
  have h1 := opsL_num n s hn hs 0 (Int.le_refl _) o ho
  have h2 := ups_plan n s hn hs 0 (t0S n s) rfl (fun k hk => by rw [List.mem_singleton.mp hk]; decide)
  obtain ⟨i, hi⟩ := List.mem_iff_getElem?.mp ho
  have h3 := ups_at h2 hi
  cases o with
  | go k => exact ⟨h3, by have : k ≤ 0 + n := h1.2; omega⟩
  | take k => have : 0 ≤ k ∧ k ≤ 0 + n := h1; exact ⟨this.1, by omega⟩
  | free k => have : 0 ≤ k ∧ k ≤ 0 + n := h1; exact ⟨this.1, by omega⟩
  | keep => trivial
  | back => trivial
theorem plan_opl {H : Hp} {S : Addr → Prop} {v : V} {n s : Int} (hn : 1 ≤ n) (hn2 : n ≤ 10 ^ 30) (hs : 1 ≤ s) (hl : opsN n s ≤ 400) (h : Rp H S v (.list ((opsL n s 0).map opD))) : ∃ a, v = .ref a ∧ OpL H a (opsL n s 0) := by
  cases h with
  | lst m e a => exact ⟨_, rfl, _, e, a.sub fun _ _ => trivial, plan_opOk hn hn2 hs, by have := opsL_len n s hn hs 0; omega⟩
theorem mst_ext42 {t u : MSt} (h3 : t.hand = u.hand) (h4 : t.kept = u.kept) (h5 : t.steps = u.steps) (h6 : t.backs = u.backs) : t = u := by
  cases t
  cases u
  simp only at h3 h4 h5 h6
  subst h3 h4 h5 h6
  rfl
theorem tz_small {n s : Int} (h : PB n s) : tz n s ≤ 10 ^ 60 := by
  have := tz_cap h.1 h.2.1 h.2.2.1
  omega
/-- a list of operations in the heap -/
def OpA (H : Hp) (xs : List V) (os : List Op) : Prop := RpA H (fun _ => True) xs (os.map opD) ∧ ∀ o ∈ os, opOk o
theorem OpA.keep {H H' : Hp} {xs : List V} {os : List Op} (k : ∀ a xs, H a = some (.tup xs) → H' a = some (.tup xs)) (h : OpA H xs os) : OpA H' xs os := ⟨ops_keep k h.1, h.2⟩
theorem OpA.ex {H H' : Hp} {xs : List V} {os : List Op} (e : Ex H H') (h : OpA H xs os) : OpA H' xs os := h.keep fun a xs h => e _ _ h
theorem OpA.mo {H H' : Hp} {r : Addr} {xs : List V} {os : List Op} (e : Mo r H H') (l : ∃ ys, H r = some (.lst ys)) (h : OpA H xs os) : OpA H' xs os := h.keep fun a xs h => e _ _ (fun z => by obtain ⟨ys, hy⟩ := l; rw [z, hy] at h; cases h) h
theorem OpA.app {H : Hp} {xs ys : List V} {os ps : List Op} (h : OpA H xs os) (h' : OpA H ys ps) : OpA H (xs ++ ys) (os ++ ps) := ⟨by rw [List.map_append]; exact h.1.app h'.1, fun o ho => (List.mem_append.mp ho).elim (h.2 o) (h'.2 o)⟩
theorem OpA.one {H : Hp} {a : Addr} {o : Op} (h : H a = some (.tup (opV o))) (ok : opOk o) : OpA H [.ref a] [o] := ⟨.cons (op_rp trivial h) .nil, fun o' h => by rw [List.mem_singleton.mp h]; exact ok⟩
theorem OpA.len {H : Hp} {xs : List V} {os : List Op} (h : OpA H xs os) : xs.length = os.length := by rw [h.1.len, List.length_map]
theorem OpA.l {H : Hp} {a : Addr} {xs : List V} {os : List Op} (h : OpA H xs os) (ha : H a = some (.lst xs)) (l : os.length ≤ 400) : OpL H a os := ⟨xs, ha, h.1, h.2, l⟩
theorem ops_req {K : PySem.W.Frag} {H : Hp} {a : Addr} {os : List Op} {Q : VK} {E : XK} (h : OpL H a os) (q : ∀ H', Ex H H' → Q .non H') : ReqQ K H (.ref a) Q E := by
  obtain ⟨ls, ha, rl, ok, lo⟩ := h
  refine .inr ⟨a, ls, List.replicate ls.length true, rfl, ha, ⟨by simp, fun i x b hx hb => ?_⟩, fun h => ?_, fun _ i h => ?_, fun _ _ => q⟩
  · obtain ⟨d, hd, rp⟩ := rl.at' hx
    rw [List.getElem?_map] at hd
    obtain ⟨o, hoi, rfl⟩ := Option.map_eq_some_iff.mp hd
    obtain ⟨a, xs, ds, rfl, h1, h2, h3, h4⟩ := isOp_ask (K := K) rp (ok o (List.mem_of_getElem? hoi))
    have hb2 : b = true := List.eq_of_mem_replicate (List.mem_of_getElem? hb)
    rw [hb2, ← h4]
    exact .tup h1 h2 h3
  · have := rl.len
    rw [List.length_map] at this
    omega
  · have := List.eq_of_mem_replicate (List.mem_of_getElem? h)
    cases this
/-! ### lists of operations as text -/
def txtD : PyData → Str
  | .str z => z
  | .int n => toString n
  | _ => ""
theorem txt_len {d : PyData} (h : fine 20 d = true) (hs : ∀ z, d = .str z → z.length ≤ 4) : (txtD d).length ≤ 2000 := by
  have := (fine_ok d 20 h).2.2.2
  cases d with
  | int n => exact this
  | str z => have := hs z rfl; show z.length ≤ 2000; omega
  | _ => exact Nat.zero_le _
theorem words_len {z : Str} (h : (words.lookup z).isSome = true) : z.length ≤ 4 := by
  have m : ∀ {l : List (Str × V)}, (l.lookup z).isSome = true → z ∈ l.map (·.1) := by
    intro l
    induction l with
    | nil => intro h; cases h
    | cons q l ih =>
      intro h
      rw [List.lookup_cons] at h
      by_cases e : (z == q.1) = true
      · rw [eq_of_beq e]
        exact List.mem_cons_self ..
      · rw [Bool.not_eq_true] at e
        rw [e] at h
        exact List.mem_cons_of_mem _ (ih h)
  have := m h
  simp only [words, List.map_cons, List.map_nil, List.mem_cons, List.not_mem_nil, or_false] at this
  rcases this with rfl | rfl | rfl | rfl | rfl <;> decide +kernel
/-- an operation's data: a word, and perhaps a number -/
theorem isOp_form {ds : List PyData} (h : isOpD ds = true) : ∃ z, (words.lookup z).isSome = true ∧ (ds = [.str z] ∨ ∃ n : Int, ds = [.str z, .int n] ∧ 0 ≤ n ∧ n ≤ 10 ^ 30) := by
  match ds, h with
  | .str z :: r, h =>
    have h' : isOpR z r = true := h
    unfold isOpR at h'
    cases hw : words.lookup z with
    | none => rw [hw] at h'; cases h'
    | some v =>
      rw [hw] at h'
      refine ⟨z, by rw [hw]; rfl, ?_⟩
      rcases words_vals hw with rfl | rfl | rfl
      · have : r.length = 0 := of_decide_eq_true h'
        rw [List.length_eq_zero_iff.mp this]
        exact .inl rfl
      · match r, h' with
        | [.int n], h' =>
          have := of_decide_eq_true h'
          exact .inr ⟨n, rfl, by omega, by omega⟩
      · match r, h' with
        | [.int n], h' =>
          have := of_decide_eq_true h'
          exact .inr ⟨n, rfl, by omega, by omega⟩
theorem isOp_mem {ds : List PyData} (h : isOpD ds = true) {d : PyData} (hd : d ∈ ds) : (∃ z, d = .str z) ∨ ∃ n : Int, d = .int n ∧ n.natAbs.log2 < 1900 := by
  obtain ⟨z, hz, e⟩ := isOp_form h
  rcases e with rfl | ⟨n, rfl, n0, n1⟩
  · rw [List.mem_singleton.mp hd]
    exact .inl ⟨_, rfl⟩
  · rcases List.mem_cons.mp hd with rfl | hd
    · exact .inl ⟨_, rfl⟩
    · rw [List.mem_singleton.mp hd]
      have hM := med_200
      exact .inr ⟨_, rfl, med_log (by omega) (by omega)⟩
theorem Rp.strs {H : Hp} {S : Addr → Prop} {v : V} {zs : List Str} (h : Rp H S v (.list (zs.map PyData.str))) : ∃ a, v = .ref a ∧ S a ∧ H a = some (.lst (zs.map V.str)) := by
  cases h with
  | lst sf hf rt =>
    refine ⟨_, rfl, sf, ?_⟩
    rw [hf]
    congr 2
    clear hf
    revert rt
    rename_i xs
    revert xs
    induction zs with
    | nil => intro xs rt; cases rt; rfl
    | cons z zs ih =>
      intro xs rt
      cases rt with
      | cons h r =>
        cases h
        rw [ih r]
        rfl
theorem It.yes' {K : PySem.W.Frag} {H : Hp} {v : V} {b : Bool} (h : It K H v b) (hb : b = true) : ∃ a xs ds, v = .ref a ∧ H a = some (.tup xs) ∧ DpAll K H xs ds ∧ isOpD ds = true ∧ fine 20 (.tuple ds) = true := by
  cases h with
  | no _ _ => cases hb
  | tup h1 h2 h3 => exact ⟨_, _, _, rfl, h1, h2, hb, h3⟩
theorem It.yes {K : PySem.W.Frag} {H : Hp} {v : V} (h : It K H v true) : ∃ a xs ds, v = .ref a ∧ H a = some (.tup xs) ∧ DpAll K H xs ds ∧ isOpD ds = true ∧ fine 20 (.tuple ds) = true := h.yes' rfl
def opTx (ds : List PyData) : Str := Txt.join " " (ds.map txtD)
theorem str_app_len (a b : Str) : (a ++ b).length = a.length + b.length := by
  show (a.cps ++ b.cps).size = a.cps.size + b.cps.size
  exact Array.size_append
theorem opTx_len {ds : List PyData} (h : isOpD ds = true) (hf : fine 20 (.tuple ds) = true) : (ds.map txtD).length ≤ 2 ∧ (∀ y ∈ ds.map txtD, y.length ≤ 2000) ∧ (opTx ds).length ≤ 4100 := by
  obtain ⟨z, hz, e⟩ := isOp_form h
  have lz := words_len hz
  rcases e with rfl | ⟨n, rfl, n0, n1⟩
  · refine ⟨by show 1 ≤ 2; decide, fun y hy => ?_, ?_⟩
    · rw [List.mem_singleton.mp hy]; show z.length ≤ 2000; omega
    · show z.length ≤ 4100; omega
  · have hM := med_200
    have fn : fine 20 (.int n) = true := by
      show decide (n.natAbs.log2 < 1900) = true
      exact decide_eq_true (med_log (by omega) (by omega))
    have ln := txt_len fn (fun z h => nomatch h)
    refine ⟨by show 2 ≤ 2; decide, fun y hy => ?_, ?_⟩
    · rcases List.mem_cons.mp hy with e | hy
      · rw [e]; show z.length ≤ 2000; omega
      · rw [List.mem_singleton.mp hy]; exact ln
    · show (z ++ " " ++ txtD (.int n)).length ≤ 4100
      rw [str_app_len, str_app_len, show (" " : Str).length = 1 from rfl]
      omega
theorem sum_le_mul {ys : List Str} {B : Nat} (h : ∀ y ∈ ys, y.length ≤ B) : (ys.map (·.length)).sum ≤ ys.length * B := by
  induction ys with
  | nil => exact Nat.zero_le _
  | cons y ys ih =>
    have h1 := h y (List.mem_cons_self ..)
    have h2 := ih fun y hy => h y (List.mem_cons_of_mem _ hy)
    rw [List.map_cons, List.sum_cons, List.length_cons, Nat.succ_mul]
    omega
def sp_operation_text (K : PySem.W.Frag) : Sp := sp1 fun x H Q _ => ∃ a xs ds, x = .ref a ∧ H a = some (.tup xs) ∧ DpAll K H xs ds ∧ isOpD ds = true ∧ fine 20 (.tuple ds) = true ∧ ∀ H', Ex H H' → Q (.str (opTx ds)) H'
theorem sc_operation_text : FnScope ["operation", "part"] ["operation"] (defScope s_operation_text) := ⟨rfl, rfl, rfl, by decide +kernel, rfl, by decide +kernel, by decide +kernel⟩
theorem ok_operation_text (T : Txt P w K mg base) : FnOk P w K mg base (L2.CX P w) 1 T.a_operation_text T.fd_operation_text ["operation"] (sp_operation_text K) := by
  refine FunD.ok T.F_operation_text sc_operation_text (fun vs H Q E h => ar1 h) (fun cdv A fr s H vs Q E hr h => ⟨_, PSs.nox (pss_one (ps_ret (pe_join pe_str (pe_lc (own := [("part", 1)]) rfl sc_operation_text.nd (pi_tup (pv 0)) (blkOk_by (N := ["operation", "part"]) (sc := defScope s_operation_text) (by decide +kernel)) (fun _ _ _ _ _ => (pg_name (i := 1) sc_operation_text.nd rfl (Or.inl rfl))) (fun _ _ _ _ _ => pts_nil) (fun _ _ _ _ _ => (pe_callTy call_str2 (by rfl) T.n_str (by decide +kernel) (pa_cons (pv 1) pa_nil))))))), ?_⟩)
  obtain ⟨_, rfl, a, xs, ds, rfl, ha, hd, ho, hf, q⟩ := h
  obtain ⟨l1, l2, l3⟩ := opTx_len ho hf
  have hl := dpa_len hd
  rw [List.length_map] at l1
  walk_at "rd"
  simp only [tM1, tLc_tup]
  walk_at "rd"
  refine lcT_in (xs := xs) (fun _ => true) (fun i => .str (txtD (ds.getD i .none))) (sq_t ha) (by omega) (fun _ => rfl) (fun i x H1 hi e R k => k H1 (.refl _)) ?_ ?_
  · rintro i x H1 hx _ e1 R k
    have hil := (List.getElem?_eq_some_iff.mp hx).1
    have hdi : ds[i]? = some ds[i] := List.getElem?_eq_getElem (by omega)
    obtain ⟨x', hx', dp⟩ := dpa_at hd hdi
    rw [hx] at hx'
    cases hx'
    have eg : ds.getD i .none = ds[i] := by rw [List.getD_eq_getElem?_getD, hdi]; rfl
    rw [eg] at k
    have hm := isOp_mem ho (List.getElem_mem (by omega : i < ds.length))
    generalize ds[i] = d at *
    simp only [wipe]
    walk_at "rd"
    refine ⟨x, rfl, ?_⟩
    rcases hm with ⟨z, rfl⟩ | ⟨n, rfl, hn⟩
    · cases dp
      exact .inr ⟨z, rfl, k _ H1 (.refl _) (.str _)⟩
    · cases dp
      exact .inl ⟨n, rfl, hn, k _ H1 (.refl _) (.str _)⟩
  · intro v H1 e1 hv
    rw [hl, range_map ds (fun d => PyData.str (txtD d)) (fun i => .str (txtD (ds.getD i .none))) (fun i x h => by show PyData.str (txtD (ds.getD i .none)) = _; rw [List.getD_eq_getElem?_getD, h]; rfl)] at hv
    obtain ⟨L, rfl, nL, hL⟩ := Rp.strs (zs := ds.map txtD) (by rw [List.map_map]; exact hv)
    refine ⟨L, rfl, ds.map txtD, .inl (sq_l hL), ?_, q H1 e1⟩
    have := sum_le_mul l2
    rw [List.length_map] at this ⊢
    have l4 : (" " : Str).length = 1 := rfl
    rw [l4]
    have : ds.length * 2000 ≤ 2 * 2000 := Nat.mul_le_mul_right _ l1
    omega
/-! ### texts of operations -/
def opWs : Op → List Str
  | .go k => ["go", Str.ofString (toString k)]
  | .keep => ["keep"]
  | .take k => ["take", Str.ofString (toString k)]
  | .free k => ["free", Str.ofString (toString k)]
  | .back => ["back"]
def opS (o : Op) : Str := Txt.join " " (opWs o)
def showT (os : List Op) : Str := Txt.join ", " (os.map opS)
theorem opS_tx {o : Op} {ds : List PyData} (h : opD o = .tuple ds) : opTx ds = opS o := by
  cases o <;> cases h <;> rfl
def isDig (c : Nat) : Bool := decide (48 ≤ c ∧ c ≤ 57)
def wholeW (w : Str) : Option Int := if w = "" ∨ 100 < w.length ∨ w.cps.toList.all isDig = false then none else if w.cps.toList[0]? = some 48 ∧ w ≠ "0" then none else some (NumText.digitsVal w.cps.toList : Nat)
def oiV : Option Int → V
  | none => .non
  | some n => .int n
def oiD : Option Int → PyData
  | none => .none
  | some n => .int n
/-- a comprehension over the signs of a text: a truth for each -/
theorem lcS_bools {te tl : TE} {σ : L2.St} {H : Hp} {Q : VK} {z : Str} {j : Nat} (f : Nat → Bool) (ha : ∀ R : VK, R (.str z) H → tl σ H R) (hn : z.length ≤ 1000000) (hw : ∀ x, wipe ((wipe σ [j]).set j (some x)) [j] = wipe σ [j])
    (he : ∀ (i : Nat) (c : Nat) H1 (R : VK), z.cps.toList[i]? = some c → Ex H H1 → (∀ H2, Ex H1 H2 → R (.bl (f c)) H2) → te ((wipe σ [j]).set j (some (.str ⟨#[c]⟩))) H1 R)
    (k : ∀ D H', Ex H H' → H' D = some (.lst ((z.cps.toList.map f).map V.bl)) → Q (.ref D) H') : tLc (iStr tl) (gName j) tYes te [j] σ H Q := by
  refine ha _ ⟨z, rfl, fun D hD => ?_⟩
  refine lc_it walk_str (fun i H' => Ex H H' ∧ H' D = some (.lst (((z.cps.toList.take i).map f).map V.bl))) ⟨exn hD, by rw [upd_same]; rfl⟩ (fun _ _ _ _ => trivial) ?_ ?_
  · rintro i x H1 H2 hi ⟨e, hd⟩ ⟨rfl, c, hc, rfl⟩
    have hc' : z.cps.toList[i]? = some c := by rw [Array.getElem?_toList]; exact hc
    refine ⟨hw _, ?_⟩
    unfold tYes
    show (if true = true then _ else _)
    rw [if_pos rfl]
    refine he i c _ _ hc' e fun H3 e3 => ⟨_, e3 _ _ hd, ?_, Mo.ex_new (e.trans e3) hD Mo.upd, ?_⟩
    · rw [List.length_map, List.length_map, List.length_take, sizeLine_eq]
      have : z.cps.size = z.length := rfl
      omega
    · rw [upd_same]
      obtain ⟨hl, e5⟩ := List.getElem?_eq_some_iff.mp hc'
      rw [List.take_succ_eq_append_getElem hl, List.map_append, List.map_append, e5]
      rfl
  · rintro H' ⟨e, hd⟩
    refine k D H' e ?_
    rw [hd, List.take_of_length_le (by rw [Array.length_toList]; exact Nat.le_refl _)]
def sp_whole_in (K : PySem.W.Frag) : Sp := sp1 fun x H Q _ => ∃ w : Str, x = .str w ∧ w.length ≤ 100000 ∧ ∀ H', Ex H H' → Q (oiV (wholeW w)) H'
theorem sc_whole_in : FnScope ["word", "sign"] ["word"] (defScope s_whole_in) := ⟨rfl, rfl, rfl, by decide +kernel, rfl, by decide +kernel, by decide +kernel⟩
theorem ok_whole_in (T : Txt P w K mg base) : FnOk P w K mg base (L2.CX P w) 1 T.a_whole_in T.fd_whole_in ["word"] (sp_whole_in K) := by
  refine FunD.ok T.F_whole_in sc_whole_in (fun vs H Q E h => ar1 h) (fun cdv A fr s H vs Q E hr h => ⟨_, PSs.nox (pss_cons (ps_if (PW.pt (pw_or (pt_cmpR op_eq (pv 0) pe_str (nomark _)) (pw_or (pt_cmpR op_gt (pe_callB call_len_str (by rfl) T.n_len (by decide +kernel) (pa_cons (pv 0) pa_nil)) (pe_glob (v := .int 100) (by rfl) T.c_MOST_DIGITS ⟨_, rfl⟩) (nomark _)) (pw_or1 (pt_not (pt_val (pe_callB (r := rAll K) (cr_all rfl) (by rfl) T.n_all (by decide +kernel) (pa_cons (pe_lc (own := [("sign", 1)]) rfl sc_whole_in.nd (pi_str (pv 0)) (blkOk_by (N := ["word", "sign"]) (sc := defScope s_whole_in) (by decide +kernel)) (fun _ _ _ _ _ => (pg_name (i := 1) sc_whole_in.nd rfl (Or.inl rfl))) (fun _ _ _ _ _ => pts_nil) (fun _ _ _ _ _ => (pe_cmpR op_in_sign (pv 1) pe_str (by rfl)))) pa_nil)))))))) (pss_one (ps_ret pe_non)) pss_nil) (pss_one (ps_ret (pe_ifExp (PW.pt (pw_and (pt_cmpR op_eq (pe_ix ix_str (pv 0) pe_int (fun _ _ => rfl)) pe_str (nomark _)) (pw_and1 (pt_cmpR op_ne (pv 0) pe_str (nomark _))))) pe_non (pe_callTy call_int_str (by rfl) T.n_int (by decide +kernel) (pa_cons (pv 0) pa_nil)))))), ?_⟩)
  obtain ⟨_, rfl, w0, rfl, hl, q⟩ := h
  walk_at "rd"
  have sc : ∀ {a b : Str}, scal (.str a) (.str b) = true := scal_ss
  unfold wholeW at q
  refine ite2 (fun h => ?_) fun h0 => ⟨by omega, ite2 (fun h => ?_) fun h1 => ?_⟩
  · rw [if_pos (.inl h)] at q
    exact q H (.refl _)
  · rw [if_pos (.inr (.inl (by omega)))] at q
    exact q H (.refl _)
  have dgs : ∀ c : Nat, decide (c ∈ ("0123456789" : Str).cps.toList) = isDig c := fun c => by
    have e : ("0123456789" : Str).cps.toList = [48, 49, 50, 51, 52, 53, 54, 55, 56, 57] := by decide +kernel
    rw [e]
    refine decide_eq_decide.mpr ⟨fun h => ?_, fun h => ?_⟩
    · simp only [List.mem_cons, List.not_mem_nil, or_false] at h
      omega
    · simp only [List.mem_cons, List.not_mem_nil, or_false]
      omega
  refine lcS_bools (z := w0) isDig (fun R k => by walk_at "rd"; exact k) (by omega) (fun _ => rfl) (fun i c H1 R hc e k => ?_) fun D H1 e1 hD => ?_
  · simp only [wipe]
    walk_at "rd"
    refine ⟨c, rfl, ?_⟩
    rw [dgs c]
    exact k H1 (.refl _)
  refine ⟨D, _, rfl, sq_l hD, ?_⟩
  have eA : (w0.cps.toList.map isDig).all id = w0.cps.toList.all isDig := by rw [List.all_map]; rfl
  rw [eA]
  refine ⟨_, rfl, ?_⟩
  cases hA : w0.cps.toList.all isDig with
  | false =>
    rw [if_pos (.inr (.inr hA))] at q
    exact iteY rfl (q H1 e1)
  | true =>
    refine iteNo (by decide) ?_
    rw [if_neg (fun z => by rcases z with z | z | z; exact h0 z; omega; rw [hA] at z; cases z)] at q
    have ad : NumText.AllDigits w0.cps.toList := fun c hc => of_decide_eq_true (List.all_eq_true.mp hA c hc)
    have hne : w0.cps.toList ≠ [] := fun z => h0 (str_ext z)
    have hi : intText? w0 = some ((NumText.digitsVal w0.cps.toList : Nat) : Int) := intText_digits ad hne (by omega)
    obtain ⟨c, r, e⟩ : ∃ c r, w0.cps.toList = c :: r := by
      cases h : w0.cps.toList with
      | nil => exact absurd h hne
      | cons c r => exact ⟨c, r, rfl⟩
    have e0 : w0.cps.toList[0]? = some c := by rw [e]; rfl
    refine ⟨w0, 0, c, rfl, rfl, by rw [sizeLine_eq]; omega, (show atI w0.cps.toList ((0 : Nat) : Int) = some c from atI_nat e0), sc, ?_⟩
    have fin : ¬ (w0.cps.toList[0]? = some 48 ∧ w0 ≠ "0") → Q (.int (NumText.digitsVal w0.cps.toList : Nat)) H1 := fun h => by
      rw [if_neg h] at q
      exact q H1 e1
    refine ite2 (fun h => ite2 (fun h' => ?_) fun h' => ⟨_, hi, by omega, fin fun z => z.2 (Decidable.not_not.mp h')⟩) fun h => ⟨_, hi, by omega, fin fun z => ?_⟩
    · have hc : c = 48 := by
        have := congrArg (fun v => match v with | V.str z => z.cps.toList | _ => []) h
        have e9 : ("0" : Str).cps.toList = [48] := by decide +kernel
        have t : [c] = ("0" : Str).cps.toList := this
        rw [e9] at t
        exact List.cons.inj t |>.1
      rw [if_pos ⟨by rw [e0, hc], h'⟩] at q
      exact q H1 e1
    · have hc : c = 48 := by
        have := z.1
        rw [e0] at this
        exact Option.some.inj this
      refine h (congrArg V.str (str_ext ?_))
      show [c] = ("0" : Str).cps.toList
      rw [hc]
      decide +kernel
def opIn1 (w : Str) : Option Op := if w = "keep" then some .keep else if w = "back" then some .back else none
def opIn2 (w : Str) : Option Int → Option Op
  | none => none
  | some n => if w = "go" ∧ 1 ≤ n ∧ n ≤ 10 ^ 30 then some (.go n) else if w = "take" ∧ n ≤ 10 ^ 30 then some (.take n) else if w = "free" ∧ n ≤ 10 ^ 30 then some (.free n) else none
def opInW : List Str → Option Op
  | [w] => opIn1 w
  | [w, x] => opIn2 w (wholeW x)
  | _ => none
def opIn (p : Str) : Option Op := opInW (Txt.split p " ")
theorem whole_nn {w : Str} {n : Int} (h : wholeW w = some n) : 0 ≤ n := by
  unfold wholeW at h
  split at h
  · cases h
  · split at h
    · cases h
    · cases h
      omega
theorem words_look (z : Str) : words.lookup z = if z = "go" then some (.int 1) else if z = "keep" then some .non else if z = "take" then some (.int 0) else if z = "free" then some (.int 0) else if z = "back" then some .non else none := by
  have b : ∀ {y : Str}, z ≠ y → (z == y) = false := fun h => by
    cases e : (z == _) with
    | false => rfl
    | true => exact absurd (eq_of_beq e) h
  unfold words
  simp only [List.lookup_cons, List.lookup_nil]
  split
  · rename_i h
    rw [if_pos (eq_of_beq h)]
  · rename_i h
    rw [if_neg (fun e => by rw [e] at h; simp at h)]
    split
    · rename_i h
      rw [if_pos (eq_of_beq h)]
    · rename_i h
      rw [if_neg (fun e => by rw [e] at h; simp at h)]
      split
      · rename_i h
        rw [if_pos (eq_of_beq h)]
      · rename_i h
        rw [if_neg (fun e => by rw [e] at h; simp at h)]
        split
        · rename_i h
          rw [if_pos (eq_of_beq h)]
        · rename_i h
          rw [if_neg (fun e => by rw [e] at h; simp at h)]
          split
          · rename_i h
            rw [if_pos (eq_of_beq h)]
          · rename_i h
            rw [if_neg (fun e => by rw [e] at h; simp at h)]
def foundD (w : Str) (ws : List Str) : List PyData := .str w :: ws.map fun x => oiD (wholeW x)
theorem isOpR_if (w : Str) (r : List PyData) : isOpR w r = if w = "go" then isNum 1 r else if w = "keep" then decide (r.length = 0) else if w = "take" then isNum 0 r else if w = "free" then isNum 0 r else if w = "back" then decide (r.length = 0) else false := by
  unfold isOpR
  rw [words_look w]
  by_cases h1 : w = "go"
  · rw [if_pos h1, if_pos h1]
  rw [if_neg h1, if_neg h1]
  by_cases h2 : w = "keep"
  · rw [if_pos h2, if_pos h2]
  rw [if_neg h2, if_neg h2]
  by_cases h3 : w = "take"
  · rw [if_pos h3, if_pos h3]
  rw [if_neg h3, if_neg h3]
  by_cases h4 : w = "free"
  · rw [if_pos h4, if_pos h4]
  rw [if_neg h4, if_neg h4]
  by_cases h5 : w = "back"
  · rw [if_pos h5, if_pos h5]
  rw [if_neg h5, if_neg h5]
theorem ites {c1 c2 c3 c4 c5 : Prop} [Decidable c1] [Decidable c2] [Decidable c3] [Decidable c4] [Decidable c5] : (if c1 then false else if c2 then false else if c3 then false else if c4 then false else if c5 then false else false) = false := by
  repeat (first | rfl | split)
theorem foundD_op (w : Str) (ws : List Str) : isOpD (foundD w ws) = (opInW (w :: ws)).isSome ∧ ∀ o, opInW (w :: ws) = some o → opD o = .tuple (foundD w ws) ∧ opOk o := by
  have nkg : ("keep" : Str) ≠ "go" := by decide +kernel
  have nbg : ("back" : Str) ≠ "go" := by decide +kernel
  have nbk : ("back" : Str) ≠ "keep" := by decide +kernel
  have nbt : ("back" : Str) ≠ "take" := by decide +kernel
  have nbf : ("back" : Str) ≠ "free" := by decide +kernel
  have ntg : ("take" : Str) ≠ "go" := by decide +kernel
  have ntk : ("take" : Str) ≠ "keep" := by decide +kernel
  have nfg : ("free" : Str) ≠ "go" := by decide +kernel
  have nfk : ("free" : Str) ≠ "keep" := by decide +kernel
  have nft : ("free" : Str) ≠ "take" := by decide +kernel
  have ngt : ("go" : Str) ≠ "take" := Ne.symm ntg
  have ngf : ("go" : Str) ≠ "free" := Ne.symm nfg
  match ws with
  | [] =>
    show isOpR w [] = (opIn1 w).isSome ∧ ∀ o, opIn1 w = some o → opD o = .tuple [.str w] ∧ opOk o
    unfold opIn1
    refine ⟨?_, fun o h => ?_⟩
    · rw [isOpR_if]
      show (if w = "go" then false else if w = "keep" then true else if w = "take" then false else if w = "free" then false else if w = "back" then true else false) = _
      by_cases h2 : w = "keep"
      · rw [h2, if_neg nkg, if_pos rfl, if_pos rfl]; rfl
      by_cases h5 : w = "back"
      · rw [h5, if_neg nbg, if_neg nbk, if_neg nbt, if_neg nbf, if_pos rfl, if_neg nbk, if_pos rfl]; rfl
      rw [if_neg h2, if_neg h5, if_neg h2, if_neg h5]
      show _ = false
      repeat (first | rfl | split)
    · by_cases h2 : w = "keep"
      · rw [if_pos h2] at h; cases h; rw [h2]; exact ⟨rfl, trivial⟩
      rw [if_neg h2] at h
      by_cases h5 : w = "back"
      · rw [if_pos h5] at h; cases h; rw [h5]; exact ⟨rfl, trivial⟩
      rw [if_neg h5] at h
      cases h
  | [x] =>
    show isOpR w [oiD (wholeW x)] = (opIn2 w (wholeW x)).isSome ∧ ∀ o, opIn2 w (wholeW x) = some o → opD o = .tuple [.str w, oiD (wholeW x)] ∧ opOk o
    cases hx : wholeW x with
    | none =>
      refine ⟨?_, fun o h => nomatch h⟩
      rw [isOpR_if]
      exact ites
    | some n =>
      have n0 := whole_nn hx
      have e2 : opIn2 w (some n) = if w = "go" ∧ 1 ≤ n ∧ n ≤ 10 ^ 30 then some (.go n) else if w = "take" ∧ n ≤ 10 ^ 30 then some (.take n) else if w = "free" ∧ n ≤ 10 ^ 30 then some (.free n) else none := rfl
      rw [e2]
      refine ⟨?_, fun o h => ?_⟩
      · rw [isOpR_if]
        show (if w = "go" then decide (1 ≤ n ∧ n ≤ 10 ^ 30) else if w = "keep" then false else if w = "take" then decide (0 ≤ n ∧ n ≤ 10 ^ 30) else if w = "free" then decide (0 ≤ n ∧ n ≤ 10 ^ 30) else if w = "back" then false else false) = _
        by_cases h1 : w = "go"
        · subst h1
          rw [if_pos rfl, if_neg (c := ("go" : Str) = "take" ∧ _) (fun z => ngt z.1), if_neg (c := ("go" : Str) = "free" ∧ _) (fun z => ngf z.1)]
          by_cases h : 1 ≤ n ∧ n ≤ 10 ^ 30
          · rw [decide_eq_true h, if_pos ⟨rfl, h⟩]; rfl
          · rw [decide_eq_false h, if_neg (fun z => h z.2)]; rfl
        rw [if_neg h1, if_neg (c := w = "go" ∧ _) (fun z => h1 z.1)]
        by_cases h3 : w = "take"
        · subst h3
          rw [if_neg ntk, if_pos rfl, if_neg (c := ("take" : Str) = "free" ∧ _) (fun z => (Ne.symm nft) z.1)]
          by_cases h : n ≤ 10 ^ 30
          · rw [decide_eq_true ⟨n0, h⟩, if_pos ⟨rfl, h⟩]; rfl
          · rw [decide_eq_false (fun z => h z.2), if_neg (fun z => h z.2)]; rfl
        rw [if_neg (c := w = "take" ∧ _) (fun z => h3 z.1), if_neg h3]
        by_cases h4 : w = "free"
        · subst h4
          rw [if_neg nfk, if_pos rfl]
          by_cases h : n ≤ 10 ^ 30
          · rw [decide_eq_true ⟨n0, h⟩, if_pos ⟨rfl, h⟩]; rfl
          · rw [decide_eq_false (fun z => h z.2), if_neg (fun z => h z.2)]; rfl
        rw [if_neg (c := w = "free" ∧ _) (fun z => h4 z.1), if_neg h4]
        show _ = false
        repeat (first | rfl | split)
      · split at h
        · rename_i h1
          cases h; rw [h1.1]; exact ⟨rfl, h1.2⟩
        · split at h
          · rename_i h1
            cases h; rw [h1.1]; exact ⟨rfl, n0, h1.2⟩
          · split at h
            · rename_i h1
              cases h; rw [h1.1]; exact ⟨rfl, n0, h1.2⟩
            · cases h
  | x :: y :: r =>
    refine ⟨?_, fun o h => nomatch h⟩
    show isOpR w (oiD (wholeW x) :: oiD (wholeW y) :: r.map fun x => oiD (wholeW x)) = false
    have e : ∀ lo : Int, isNum lo (oiD (wholeW x) :: oiD (wholeW y) :: r.map fun x => oiD (wholeW x)) = false := fun lo => by
      cases wholeW x <;> rfl
    rw [isOpR_if, e, e]
    exact ites
theorem cutV_1 (a : V) (l : List V) : cutV (a :: l) (some 1) none = l := by
  unfold cutV
  simp [HT.sIx]
  try omega
theorem Rp.ois {H : Hp} {S : Addr → Prop} {v : V} {zs : List (Option Int)} (h : Rp H S v (.list (zs.map oiD))) : ∃ a, v = .ref a ∧ S a ∧ H a = some (.lst (zs.map oiV)) := by
  cases h with
  | lst sf hf rt =>
    refine ⟨_, rfl, sf, ?_⟩
    rw [hf]
    congr 2
    clear hf
    revert rt
    rename_i xs
    revert xs
    induction zs with
    | nil => intro xs rt; cases rt; rfl
    | cons z zs ih =>
      intro xs rt
      rw [List.map_cons] at rt
      cases rt with
      | cons h r =>
        rw [ih r, List.map_cons]
        congr 1
        cases z with
        | none => cases h; rfl
        | some n => cases h; rfl
theorem oi_rp {H : Hp} {S : Addr → Prop} {o : Option Int} : Rp H S (oiV o) (oiD o) := by
  cases o with
  | none => exact .non
  | some n => exact .int n
theorem oi_dpa {K : PySem.W.Frag} {H : Hp} : ∀ {zs : List Str}, DpAll K H (zs.map fun x => oiV (wholeW x)) (zs.map fun x => oiD (wholeW x))
  | [] => .nil
  | z :: zs => .cons (oi_rp (S := fun _ => True)).dp oi_dpa
theorem digits_lt : ∀ l : List Nat, NumText.AllDigits l → NumText.digitsVal l < 10 ^ l.length := by
  intro l
  generalize hn : l.length = n
  induction n generalizing l with
  | zero =>
    intro _
    rw [List.length_eq_zero_iff.mp hn]
    decide
  | succ n ih =>
    intro h
    obtain ⟨a, c, rfl⟩ : ∃ a c, l = a ++ [c] := ⟨l.dropLast, l.getLast (by intro z; rw [z] at hn; cases hn), (List.dropLast_concat_getLast _).symm⟩
    rw [List.length_append] at hn
    have hn : a.length + 1 = n + 1 := hn
    have := ih a (by omega) fun d hd => h d (List.mem_append_left _ hd)
    have hc := h c (List.mem_append_right _ (List.mem_singleton_self _))
    rw [NumText.digitsVal_snoc, Nat.pow_succ]
    omega
theorem whole_lt {w : Str} {n : Int} (h : wholeW w = some n) : n < 10 ^ 100 := by
  unfold wholeW at h
  split at h
  · cases h
  · rename_i hc
    split at h
    · cases h
    · cases h
      have hA : w.cps.toList.all isDig = true := by
        cases e : w.cps.toList.all isDig with
        | true => rfl
        | false => exact absurd (.inr (.inr e)) hc
      have := digits_lt w.cps.toList fun c hc => of_decide_eq_true (List.all_eq_true.mp hA c hc)
      have l : w.cps.toList.length ≤ 100 := by
        have : ¬ 100 < w.length := fun z => hc (.inr (.inl z))
        rw [len_cps] at this
        omega
      have := Nat.lt_of_lt_of_le this (Nat.pow_le_pow_right (by decide) l)
      exact Int.ofNat_lt.mpr this
theorem foundD_fine {w : Str} {ws : List Str} (h : ∀ c ∈ w.cps.toList, c < 128) : fine 20 (.tuple (foundD w ws)) = true := by
  refine fineAll_all fun d hd => ?_
  rcases List.mem_cons.mp hd with rfl | hd
  · show (w.cps.all fun c => decide (c < 1114112)) = true
    rw [Array.all_eq_true']
    intro c hc
    have := h c (Array.mem_toList_iff.mpr hc)
    exact decide_eq_true (by omega)
  · obtain ⟨x, _, rfl⟩ := List.mem_map.mp hd
    cases hx : wholeW x with
    | none => rfl
    | some n =>
      have hM := med_200
      have h0 := whole_nn hx
      have h1 := whole_lt hx
      show decide (n.natAbs.log2 < 1900) = true
      have hB : (10 : Int) ^ 100 < MED := by unfold MED; decide +kernel
      exact decide_eq_true (med_log (by omega) (by omega))
theorem opV_tup {o : Op} {ds : List PyData} {K : PySem.W.Frag} {H : Hp} {xs : List V} (e : opD o = .tuple ds) (h : DpAll K H xs ds) : xs = opV o := by
  cases o <;> cases e
  · cases h with | cons a r => cases a; cases r with | cons a r => cases a; cases r; rfl
  · cases h with | cons a r => cases a; cases r; rfl
  · cases h with | cons a r => cases a; cases r with | cons a r => cases a; cases r; rfl
  · cases h with | cons a r => cases a; cases r with | cons a r => cases a; cases r; rfl
  · cases h with | cons a r => cases a; cases r; rfl
def sp_operation_in (K : PySem.W.Frag) : Sp := sp1 fun x H Q _ => ∃ p : Str, x = .str p ∧ (∀ c ∈ p.cps.toList, c < 128) ∧ p.length ≤ 100000 ∧ (∀ o, opIn p = some o → ∀ H' a, Ex H H' → H a = none → H' a = some (.tup (opV o)) → Q (.ref a) H') ∧ (opIn p = none → ∀ H', Ex H H' → Q .non H')
theorem sc_operation_in : FnScope ["part", "words", "numbers", "found", "word"] ["part"] (defScope s_operation_in) := ⟨rfl, rfl, rfl, by decide +kernel, rfl, by decide +kernel, by decide +kernel⟩
theorem ok_operation_in (T : Txt P w K mg base) : FnOk P w K mg base (L2.CX P w) 4 T.a_operation_in T.fd_operation_in ["part"] (sp_operation_in K) := by
  refine FunD.ok T.F_operation_in sc_operation_in (fun vs H Q E h => ar1 h) (fun cdv A fr s H vs Q E hr h => ⟨_, PSs.nox (Evl.pss_cut (ps_set (i := 1) sc_operation_in.nd rfl (.inl rfl) (pe_split (pv 0) pe_str)) (Evl.pss_cut (ps_setLc (i := 2) (own := [("word", 4)]) rfl sc_operation_in.nd rfl rfl (sw_true rfl rfl rfl (by decide +kernel)) (pi_list (pe_slice (r := rSlL K) sl_list (pv 1) (po_some pe_int) po_none)) (blkOk_by (N := ["part", "words", "numbers", "found", "word"]) (sc := defScope s_operation_in) (by decide +kernel)) (fun _ _ _ _ _ => (pg_name (i := 4) sc_operation_in.nd rfl (Or.inl rfl))) (fun _ _ _ _ _ => pts_nil) (fun _ _ _ _ _ => (pe_call (ok_whole_in T) (hr.mono (by decide)) (by rfl) T.g_whole_in T.F_whole_in.kp T.b_whole_in .nil passL (pa_cons (pv 4) pa_nil)))) (Evl.pss_cut (ps_set (i := 3) sc_operation_in.nd rfl (.inl rfl) (pe_tup (pa_cons (pe_ix (r := rIxL K) ix_list (pv 1) pe_int (fun _ _ => rfl)) (StX.pa_star (pv 2) pa_nil)))) (pss_one (ps_ret (pe_ifExp (pt_val (pe_call (ok_is_operation T) hr (by rfl) T.g_is_operation T.F_is_operation.kp T.b_is_operation .nil passL (pa_cons (pv 3) pa_nil))) (pv 3) pe_non)))))), ?_⟩)
  obtain ⟨_, rfl, p, rfl, ha, hl, q1, q2⟩ := h
  refine Evl.q_cut (M := fun σ' H' => ∃ W ws, σ' = [some (.str p), some (.ref W), none, none, none] ∧ Ex H H' ∧ H' W = some (.lst (ws.map V.str)) ∧ ws = Txt.split p " ") ?_ ?_
  · walk_at "rd"
    simp only [tM1]
    walk_at "rd"
    exact ⟨rfl, by omega, fun W hW => ⟨W, rfl, exn hW, upd_same⟩⟩
  rintro σ H1 ⟨W, ws, rfl, e1, hW, hws⟩
  obtain ⟨w0, wr, rfl⟩ : ∃ w0 wr, ws = w0 :: wr := by
    cases ws with
    | nil => exact absurd hws.symm (split_ne p " ")
    | cons a b => exact ⟨a, b, rfl⟩
  have hmem : ∀ x ∈ w0 :: wr, (∀ c ∈ x.cps.toList, c < 128) ∧ x.length ≤ 100000 := fun x hx => by
    rw [hws] at hx
    have := split_mem hx
    exact ⟨fun c hc => ha c (this.1 c hc), Nat.le_trans this.2 hl⟩
  have hlen : (w0 :: wr).length ≤ 100002 := by
    rw [hws]
    exact Nat.le_trans (split_len p " ") (by omega)
  rw [List.length_cons] at hlen
  refine Evl.q_cut (M := fun σ' H' => ∃ N, σ' = [some (.str p), some (.ref W), some (.ref N), none, none] ∧ Ex H1 H' ∧ H' N = some (.lst (wr.map fun x => oiV (wholeW x)))) ?_ ?_
  · unfold sp_whole_in
    walk_at "rd"
    simp only [tLc_lst]
    walk_at "rd"
    refine ⟨_, sq_l hW, fun p1 hp1 => ?_⟩
    rw [List.map_cons, cutV_1]
    refine lcL_in (xs := wr.map V.str) (fun _ => true) (fun i => oiD (wholeW (wr.getD i ""))) (sq_l upd_same) (by rw [List.length_map]; omega) (fun _ => rfl) (fun i x H2 hi e R k => k H2 (.refl _)) ?_ ?_
    · rintro i x H2 hx _ e R k
      rw [List.getElem?_map] at hx
      obtain ⟨y, hy, rfl⟩ := Option.map_eq_some_iff.mp hx
      simp only [wipe]
      walk_at "rd"
      rw [List.getD_eq_getElem?_getD, hy] at k
      exact ⟨(hmem y (List.mem_cons_of_mem _ (List.mem_of_getElem? hy))).2, fun H3 e3 => k _ H3 e3 oi_rp⟩
    · intro v H2 e2 hv
      rw [List.length_map, range_map wr (fun x => oiD (wholeW x)) (fun i => oiD (wholeW (wr.getD i ""))) (fun i x h => by show oiD (wholeW (wr.getD i "")) = _; rw [List.getD_eq_getElem?_getD, h]; rfl)] at hv
      obtain ⟨N, rfl, _, hN⟩ := Rp.ois (zs := wr.map wholeW) (by rw [List.map_map]; exact hv)
      rw [List.map_map] at hN
      exact ⟨N, rfl, (exn hp1).trans e2, hN⟩
  rintro σ H2 ⟨N, rfl, e2, hN⟩
  refine Evl.q_cut (M := fun σ' H' => ∃ a, σ' = [some (.str p), some (.ref W), some (.ref N), some (.ref a), none] ∧ Ex H2 H' ∧ H2 a = none ∧ H' a = some (.tup (.str w0 :: wr.map fun x => oiV (wholeW x)))) ?_ ?_
  · walk_at "rd"
    exact ⟨_, sq_l (e2 _ _ hW), _, atI_0, _, .inr (sq_l hN), by rw [List.length_map]; omega, fun p1 hp1 => ⟨exn hp1, hp1, rfl, rfl⟩⟩
  rintro σ H3 ⟨a, rfl, e3, na, ha3⟩
  unfold sp_is_operation
  walk_at "rd"
  obtain ⟨f1, f2⟩ := foundD_op w0 wr
  have e13 := (e1.trans e2).trans e3
  have hd : DpAll K H3 (.str w0 :: wr.map fun x => oiV (wholeW x)) (foundD w0 wr) := .cons (.str _) oi_dpa
  refine .inr ⟨_, ha3, _, hd, foundD_fine (hmem w0 (List.mem_cons_self ..)).1, fun H4 e4 => ?_⟩
  have eo : opIn p = opInW (w0 :: wr) := by unfold opIn; rw [← hws]
  rw [f1]
  cases h : opInW (w0 :: wr) with
  | none => exact iteNo (by decide) (q2 (eo.trans h) H4 (e13.trans e4))
  | some o =>
    obtain ⟨g1, g2⟩ := f2 o h
    exact iteY rfl (q1 o (eo.trans h) H4 a (e13.trans e4) (Evl.fresh_back (e1.trans e2) na) (e4 _ _ (by rw [← opV_tup g1 hd]; exact ha3)))
theorem op_ask2 {K : PySem.W.Frag} {H : Hp} {a : Addr} {o : Op} (h : H a = some (.tup (opV o))) (ok : opOk o) : ∃ ds, DpAll K H (opV o) ds ∧ fine 20 (.tuple ds) = true ∧ isOpD ds = true ∧ opTx ds = opS o := by
  obtain ⟨ds, e, i⟩ := isOp_opD ok
  have nm := opOk_num ok
  have f := opD_fine (o := o) 19 nm.1 (by omega)
  rw [e] at f
  refine ⟨ds, ?_, f, i, opS_tx e⟩
  cases o <;> cases e
  · exact .cons (.str _) (.cons (.int _) .nil)
  · exact .cons (.str _) .nil
  · exact .cons (.str _) (.cons (.int _) .nil)
  · exact .cons (.str _) (.cons (.int _) .nil)
  · exact .cons (.str _) .nil
theorem opS_len {o : Op} (ok : opOk o) : (opS o).length ≤ 4100 := by
  obtain ⟨ds, e, i⟩ := isOp_opD ok
  have nm := opOk_num ok
  have f := opD_fine (o := o) 19 nm.1 (by omega)
  rw [e] at f
  rw [← opS_tx e]
  exact (opTx_len i f).2.2
def sp_show_list (K : PySem.W.Frag) : Sp := sp1 fun v H Q _ => ∃ a os, v = .ref a ∧ OpL H a os ∧ ∀ H', Ex H H' → Q (.str (showT os)) H'
theorem sc_show_list : FnScope ["operations", "operation"] ["operations"] (defScope s_show_list) := ⟨rfl, rfl, rfl, by decide +kernel, rfl, by decide +kernel, by decide +kernel⟩
theorem ok_show_list (T : Txt P w K mg base) : FnOk P w K mg base (L2.CX P w) 5 T.a_show_list T.fd_show_list ["operations"] (sp_show_list K) := by
  refine FunD.ok T.F_show_list sc_show_list (fun vs H Q E h => ar1 h) (fun cdv A fr s H vs Q E hr h => ⟨_, PSs.nox (pss_cons (ps_expr (pe_call (ok_require_operations T) hr (by rfl) T.g_require_operations T.F_require_operations.kp T.b_require_operations .nil passL (pa_cons (pv 0) pa_nil))) (pss_one (ps_ret (pe_join pe_str (pe_lc (own := [("operation", 1)]) rfl sc_show_list.nd (pi_list (pv 0)) (blkOk_by (N := ["operations", "operation"]) (sc := defScope s_show_list) (by decide +kernel)) (fun _ _ _ _ _ => (pg_name (i := 1) sc_show_list.nd rfl (Or.inl rfl))) (fun _ _ _ _ _ => pts_nil) (fun _ _ _ _ _ => (pe_call (ok_operation_text T) (hr.mono (by decide)) (by rfl) T.g_operation_text T.F_operation_text.kp T.b_operation_text .nil passL (pa_cons (pv 1) pa_nil)))))))), ?_⟩)
  obtain ⟨_, rfl, a, os, rfl, ol, q⟩ := h
  obtain ⟨ls, ha, rl, ok, lo⟩ := id ol
  have ll : ls.length = os.length := by rw [rl.len, List.length_map]
  unfold sp_require_operations sp_operation_text
  walk_at "rd"
  refine ops_req ol fun H1 e1 => ?_
  simp only [tM1, tLc_lst]
  walk_at "rd"
  refine lcL_in (xs := ls) (fun _ => true) (fun i => .str (opS (os.getD i .keep))) (sq_l (e1 _ _ ha)) (by omega) (fun _ => rfl) (fun i x H2 hi e R k => k H2 (.refl _)) ?_ ?_
  · rintro i x H2 hx _ e R k
    obtain ⟨o, b, hoi, rfl, hb⟩ := OpL.at_ rl hx
    have hb2 := e _ _ (e1 _ _ hb)
    obtain ⟨ds, h1, h2, h3, h4⟩ := op_ask2 (K := K) hb2 (ok o (List.mem_of_getElem? hoi))
    simp only [wipe]
    walk_at "rd"
    refine ⟨_, hb2, _, h1, h3, h2, fun H3 e3 => ?_⟩
    rw [h4]
    rw [List.getD_eq_getElem?_getD, hoi] at k
    exact k _ H3 e3 (.str _)
  · intro v H2 e2 hv
    rw [ll, range_map os (fun o => PyData.str (opS o)) (fun i => .str (opS (os.getD i .keep))) (fun i x h => by show PyData.str (opS (os.getD i .keep)) = _; rw [List.getD_eq_getElem?_getD, h]; rfl)] at hv
    obtain ⟨L, rfl, nL, hL⟩ := Rp.strs (zs := os.map opS) (by rw [List.map_map]; exact hv)
    refine ⟨L, rfl, os.map opS, .inl (sq_l hL), ?_, q H2 (e1.trans e2)⟩
    have s1 := sum_le_mul (ys := os.map opS) (B := 4100) fun y hy => by
      obtain ⟨o, ho, rfl⟩ := List.mem_map.mp hy
      exact opS_len (ok o ho)
    rw [List.length_map] at s1 ⊢
    have s2 : os.length * 4100 ≤ 400 * 4100 := Nat.mul_le_mul_right _ lo
    have l4 : (", " : Str).length = 2 := rfl
    rw [l4]
    omega
def partsOf (x : Str) : List Str := if x = "" then [] else Txt.split x ", "
/-- what reading a text wishes -/
def ReadQ (K : PySem.W.Frag) (H : Hp) (v : V) (Q : VK) (E : XK) : Prop := (∃ t, TyX K H v (.type t) ∧ kitB t "str" = some false ∧ ∀ H' d, Ex H H' → H d = none → H' d = some (.xd [("part", .non)]) → E (.ref (eC K 2)) (some d) H') ∨
  (∃ x, v = .str x ∧ (∀ c ∈ x.cps.toList, c < 128) ∧ x.length ≤ 100000 ∧
    (∀ (i : Nat) p, (partsOf x)[i]? = some p → opIn p = none → (∀ j q, j < i → (partsOf x)[j]? = some q → (opIn q).isSome = true) → ∀ H' d, Ex H H' → H d = none → H' d = some (.xd [("part", .int i)]) → E (.ref (eC K 2)) (some d) H') ∧
    (∀ os : List Op, (partsOf x).map opIn = os.map some → 400 < os.length → ∀ H' d, Ex H H' → H d = none → H' d = some (.xd [("part", .int (os.length : Nat))]) → E (.ref (eC K 2)) (some d) H') ∧
    (∀ os : List Op, (partsOf x).map opIn = os.map some → os.length ≤ 400 → ∀ H' a ls, Ex H H' → H a = none → H' a = some (.lst ls) → OpA H' ls os → Q (.ref a) H'))
theorem map_some_inj {α : Type} {a b : List α} (h : a.map some = b.map some) : a = b := by
  have := congrArg (List.filterMap id) h
  simpa using this
theorem read_ok {K : PySem.W.Frag} {H : Hp} {x : Str} {os : List Op} {Q : VK} {E : XK} (h1 : ∀ c ∈ x.cps.toList, c < 128) (h2 : x.length ≤ 100000) (h3 : (partsOf x).map opIn = os.map some) (h4 : os.length ≤ 400)
    (k : ∀ H' a ls, Ex H H' → H a = none → H' a = some (.lst ls) → OpA H' ls os → Q (.ref a) H') : ReadQ K H (.str x) Q E := by
  refine .inr ⟨x, rfl, h1, h2, fun i p hp hn _ => ?_, fun os' h l => ?_, fun os' h l H' a ls e na ha oa => ?_⟩
  · have h := congrArg (fun l => l[i]?) h3
    rw [List.getElem?_map, List.getElem?_map, hp] at h
    cases h9 : os[i]? with
    | none => rw [h9] at h; cases h
    | some o =>
      rw [h9] at h
      have : opIn p = some o := Option.some.inj h
      rw [hn] at this
      cases this
  · have e := map_some_inj (h.symm.trans h3)
    rw [e] at l
    omega
  · have e9 := map_some_inj (h.symm.trans h3)
    rw [e9] at oa
    exact k H' a ls e na ha oa
def sp_read_list (K : PySem.W.Frag) : Sp := sp1 fun v H Q E => ReadQ K H v Q E
theorem sc_read_list : FnScope ["text", "operations", "index", "part", "operation"] ["text"] (defScope s_read_list) := ⟨rfl, rfl, rfl, by decide +kernel, rfl, by decide +kernel, by decide +kernel⟩
theorem ok_read_list (T : Txt P w K mg base) : FnOk P w K mg base (L2.CX P w) 5 T.a_read_list T.fd_read_list ["text"] (sp_read_list K) := by
  refine FunD.ok T.F_read_list sc_read_list (fun vs H Q E h => ar1 h) (fun cdv A fr s H vs Q E hr h => ⟨_, (Evl.pss_cut (ps_if (pt_not (pt_val (pe_callB (r := rIsi K) call_isi (by rfl) T.n_isinstance (by decide +kernel) (pa_cons (pv 0) (pa_cons (pe_bltn (v := .ty "str") (by rfl) T.n_str (by decide +kernel) rfl) pa_nil))))) (pss_one (ps_raise rfl (takes_of rfl rfl rfl rfl) (pmk_init T.i_2 (ok_InvalidText___init__ T) (hr.mono (by decide)) T.b_InvalidText___init__ (by rfl) (T.er.gl 2 (by decide)) (pa_cons pe_non pa_nil)))) pss_nil) (Evl.pss_cut (ps_set (i := 1) sc_read_list.nd rfl (.inl rfl) (pe_lst pa_nil)) (Evl.pss_cut (ps_for (passes_of rfl) rfl (pi_enum (by rfl) T.n_enumerate (pa_cons (pe_ifExp (pt_cmpR op_eq (pv 0) pe_str (nomark _)) (pe_lst pa_nil) (pe_split (pv 0) pe_str)) pa_nil)) (pg_tupT (n := 2) rfl (pgs_cons (pg_name (i := 2) sc_read_list.nd rfl (.inl rfl)) (pgs_cons (pg_name (i := 3) sc_read_list.nd rfl (.inl rfl)) pgs_nil))) (Evl.pss_cut (ps_set (i := 4) sc_read_list.nd rfl (.inl rfl) (pe_call (ok_operation_in T) hr (by rfl) T.g_operation_in T.F_operation_in.kp T.b_operation_in .nil passL (pa_cons (pv 3) pa_nil))) (Evl.pss_cut (ps_if (pt_cmpR op_isN (pv 4) pe_non (nomark _)) (pss_one (ps_raise rfl (takes_of rfl rfl rfl rfl) (pmk_init T.i_2 (ok_InvalidText___init__ T) (hr.mono (by decide)) T.b_InvalidText___init__ (by rfl) (T.er.gl 2 (by decide)) (pa_cons (pv 2) pa_nil)))) pss_nil) (pss_one (ps_expr (pe_bm PySem.F.plainAttrs_list PySem.F.slot_list_append PySem.F.type_list_append mt_append (pv 1) (pa_cons (pv 4) pa_nil))))))) (pss_cons (ps_if (pt_cmpR op_gt (pe_callB (r := rLenQ K) call_lenQ (by rfl) T.n_len (by decide +kernel) (pa_cons (pv 1) pa_nil)) (pe_glob (v := .int 400) (by rfl) T.c_MOST_OPERATIONS_texts ⟨_, rfl⟩) (nomark _)) (pss_one (ps_raise rfl (takes_of rfl rfl rfl rfl) (pmk_init T.i_2 (ok_InvalidText___init__ T) (hr.mono (by decide)) T.b_InvalidText___init__ (by rfl) (T.er.gl 2 (by decide)) (pa_cons (pe_callB (r := rLenQ K) call_lenQ (by rfl) T.n_len (by decide +kernel) (pa_cons (pv 1) pa_nil)) pa_nil)))) pss_nil) (pss_one (ps_ret (pv 1))))))), ?_⟩)
  obtain ⟨v, rfl, h⟩ := h
  rcases h with ⟨t, ty, kt, q⟩ | ⟨x, rfl, hx, hl, q1, q2, q3⟩
  · refine Evl.q_cut (M := fun σ' H' => False) ?_ (fun _ _ h => h.elim)
    walk_at "rd"
    refine ⟨v, .ty "str", .type t, .type "str", false, rfl, .ty _, ty, kit_ty kt, false, rfl, iteY rfl fun d hd => ?_⟩
    exact q _ d (exn hd) hd upd_same
  refine Evl.q_cut (M := fun σ' H' => σ' = [some (.str x), none, none, none, none] ∧ H = H') ?_ ?_
  · walk_at "rd"
    exact ⟨_, .ty "str", .type "str", .type "str", true, rfl, .ty _, .base (.str x), kit_ty (by decide +kernel), true, rfl, iteNo (by decide) rfl⟩
  rintro σ _ ⟨rfl, rfl⟩
  refine Evl.q_cut (M := fun σ' H' => ∃ A, σ' = [some (.str x), some (.ref A), none, none, none] ∧ Ex H H' ∧ H A = none ∧ H' A = some (.lst [])) ?_ ?_
  · walk_at "rd"
    intro p hp
    exact ⟨exn hp, hp⟩
  rintro σ H1 ⟨A, rfl, e1, nA, hA⟩
  refine Evl.q_cut (M := fun σ' H' => ∃ y z u os ls, σ' = [some (.str x), some (.ref A), y, z, u] ∧ Ex H H' ∧ H' A = some (.lst ls) ∧ OpA H' ls os ∧ (partsOf x).map opIn = os.map some) ?_ ?_
  · walk_at "rd"
    simp only [tFor_enum]
    walk_at "rd"
    have plen : (partsOf x).length ≤ 100002 := by
      unfold partsOf
      split
      · exact Nat.zero_le _
      · exact Nat.le_trans (split_len x ", ") (by omega)
    have pmem : ∀ p ∈ partsOf x, (∀ c ∈ p.cps.toList, c < 128) ∧ p.length ≤ 100000 := fun p hp => by
      unfold partsOf at hp
      split at hp
      · cases hp
      · have := split_mem hp
        exact ⟨fun c hc => hx c (this.1 c hc), Nat.le_trans this.2 hl⟩
    have begin_ : ∀ {L : Addr}, H1 L = none → Ex H1 (upd H1 L (.lst ((partsOf x).map V.str))) ∧ upd H1 L (.lst ((partsOf x).map V.str)) A = some (.lst []) ∧ upd H1 L (.lst ((partsOf x).map V.str)) L = some (.lst ((partsOf x).map V.str)) ∧ L ≠ A := fun h =>
      ⟨exn h, exn h _ _ hA, upd_same, fun z => by rw [z, hA] at h; cases h⟩
    refine ite2 (fun h L hL => ⟨_, sq_l upd_same, ?_⟩) (fun h => ?_)
    rotate_left
    · simp only [tM1]
      walk_at "rd"
      refine ⟨rfl, by omega, fun L hL => ⟨L, rfl, _, sq_l upd_same, ?_⟩⟩
      have ep : Txt.split x ", " = partsOf x := by unfold partsOf; rw [if_neg h]
      rw [ep]
      obtain ⟨e3, hA3, hL3, nLA⟩ := begin_ hL
      generalize upd H1 L (.lst ((partsOf x).map V.str)) = H3 at *
      refine forE_in (xs := (partsOf x).map V.str) (fun i σ' H' => ∃ y z u os ls, σ' = [some (.str x), some (.ref A), y, z, u] ∧ But (fun c => c = A) H3 H' ∧ H' A = some (.lst ls) ∧ OpA H' ls os ∧ ((partsOf x).take i).map opIn = os.map some) ⟨none, none, none, [], [], rfl, .refl, hA3, ⟨.nil, fun o h => nomatch h⟩, rfl⟩ ?_ ?_ ?_
      · rintro i σ' H' _ ⟨y, z, u, os, ls, rfl, b4, _⟩
        exact sq_l (b4 _ _ nLA hL3)
      · rintro σ' H' ⟨y, z, u, os, ls, rfl, b4, hA4, oa, hos⟩
        rw [List.length_map, List.take_length] at hos
        exact ⟨y, z, u, rfl, fun c w hc => b4 c w (fun z => by rw [z, nA] at hc; cases hc) (e3 c w (e1 c w hc)), os, ls, hA4, oa, hos⟩
      rintro i v T1 σ' H4 hiv ⟨y, z, u, os, ls, rfl, b4, hA4, oa, hos⟩ hT1
      rw [List.getElem?_map] at hiv
      obtain ⟨p, hp, rfl⟩ := Option.map_eq_some_iff.mp hiv
      have hi := (List.getElem?_eq_some_iff.mp hp).1
      have eT := exn (o := .tup [.int (i : Nat), .str p]) hT1
      have hTu := upd_same (H := H4) (a := T1) (o := .tup [.int (i : Nat), .str p])
      have b5 := b4.trans (But.ex eT)
      have hA5 := eT _ _ hA4
      have oa5 := oa.ex eT
      have lo : os.length = i := by
        have := congrArg List.length hos
        rw [List.length_map, List.length_map, List.length_take] at this
        omega
      generalize upd H4 T1 (.tup [.int (i : Nat), .str p]) = H5 at *
      have eH : Ex H H5 := fun c w hc => b5 c w (fun z => by rw [z, nA] at hc; cases hc) (e3 c w (e1 c w hc))
      have lls := oa.len
      walk_at "rd"
      refine ⟨_, hTu, rfl, _, _, rfl, _, _, rfl, rfl, ?_⟩
      refine Evl.q_cut (M := fun σ' H' => Ex H5 H' ∧ ((opIn p = none ∧ σ' = [some (.str x), some (.ref A), some (.int (i : Nat)), some (.str p), some .non]) ∨ ∃ o a, opIn p = some o ∧ H' a = some (.tup (opV o)) ∧ σ' = [some (.str x), some (.ref A), some (.int (i : Nat)), some (.str p), some (.ref a)])) ?_ ?_
      · unfold sp_operation_in
        walk_at "rd"
        have pm := pmem p (List.mem_of_getElem? hp)
        exact ⟨pm.1, pm.2, fun o ho H6 a e6 na ha => ⟨e6, o, ho, a, ha, rfl⟩, fun hn H6 e6 => ⟨e6, hn⟩⟩
      rintro σ H6 ⟨e6, hc⟩
      rcases hc with ⟨hn, rfl⟩ | ⟨o, a, ho, ha, rfl⟩
      · refine Evl.q_cut (M := fun _ _ => False) ?_ (fun _ _ h => h.elim)
        walk_at "rd"
        intro d hd
        refine q1 i p hp hn (fun j q hj hq => ?_) _ d ((eH.trans e6).trans (exn hd)) (Evl.fresh_back (eH.trans e6) hd) upd_same
        have h1 : ((partsOf x).take i)[j]? = some q := by rw [List.getElem?_take, if_pos hj, hq]
        have h2 := congrArg (fun l => l[j]?) hos
        rw [List.getElem?_map, List.getElem?_map, h1] at h2
        cases h3 : os[j]? with
        | none => rw [h3] at h2; cases h2
        | some o =>
          rw [h3] at h2
          rw [show opIn q = some o from Option.some.inj h2]
          rfl
      · refine Evl.q_cut (M := fun σ' H' => σ' = [some (.str x), some (.ref A), some (.int (i : Nat)), some (.str p), some (.ref a)] ∧ H6 = H') ?_ ?_
        · walk_at "rd"
        rintro σ _ ⟨rfl, rfl⟩
        walk_at "rd"
        have oko : opOk o := by
          unfold opIn at ho
          cases hs : Txt.split p " " with
          | nil => rw [hs] at ho; cases ho
          | cons w0 wr => rw [hs] at ho; exact ((foundD_op w0 wr).2 o ho).2
        refine ⟨⟨_, sq_l (e6 _ _ hA5)⟩, ls, e6 _ _ hA5, by omega, ?_⟩
        have naA : a ≠ A := fun z => by rw [z, e6 _ _ hA5] at ha; cases ha
        refine ⟨(b5.trans (But.ex e6)).trans (But.upd rfl), os ++ [o], ?_, ?_⟩
        · refine ((oa5.ex e6).app (.one ha oko)).keep fun b xs h => ?_
          rw [upd_ne (fun z => by rw [z, e6 _ _ hA5] at h; cases h)]
          exact h
        · obtain ⟨hl2, e9⟩ := List.getElem?_eq_some_iff.mp hp
          rw [List.take_succ_eq_append_getElem hl2, List.map_append, List.map_append, hos, e9]
          show _ ++ [opIn p] = _ ++ [some o]
          rw [ho]
    · have ep : HO.lst [] = HO.lst ((partsOf x).map V.str) := by unfold partsOf; rw [if_pos h]; rfl
      rw [ep]
      obtain ⟨e3, hA3, hL3, nLA⟩ := begin_ hL
      generalize upd H1 L (.lst ((partsOf x).map V.str)) = H3 at *
      refine forE_in (xs := (partsOf x).map V.str) (fun i σ' H' => ∃ y z u os ls, σ' = [some (.str x), some (.ref A), y, z, u] ∧ But (fun c => c = A) H3 H' ∧ H' A = some (.lst ls) ∧ OpA H' ls os ∧ ((partsOf x).take i).map opIn = os.map some) ⟨none, none, none, [], [], rfl, .refl, hA3, ⟨.nil, fun o h => nomatch h⟩, rfl⟩ ?_ ?_ ?_
      · rintro i σ' H' _ ⟨y, z, u, os, ls, rfl, b4, _⟩
        exact sq_l (b4 _ _ nLA hL3)
      · rintro σ' H' ⟨y, z, u, os, ls, rfl, b4, hA4, oa, hos⟩
        rw [List.length_map, List.take_length] at hos
        exact ⟨y, z, u, rfl, fun c w hc => b4 c w (fun z => by rw [z, nA] at hc; cases hc) (e3 c w (e1 c w hc)), os, ls, hA4, oa, hos⟩
      rintro i v T1 σ' H4 hiv ⟨y, z, u, os, ls, rfl, b4, hA4, oa, hos⟩ hT1
      rw [List.getElem?_map] at hiv
      obtain ⟨p, hp, rfl⟩ := Option.map_eq_some_iff.mp hiv
      have hi := (List.getElem?_eq_some_iff.mp hp).1
      have eT := exn (o := .tup [.int (i : Nat), .str p]) hT1
      have hTu := upd_same (H := H4) (a := T1) (o := .tup [.int (i : Nat), .str p])
      have b5 := b4.trans (But.ex eT)
      have hA5 := eT _ _ hA4
      have oa5 := oa.ex eT
      have lo : os.length = i := by
        have := congrArg List.length hos
        rw [List.length_map, List.length_map, List.length_take] at this
        omega
      generalize upd H4 T1 (.tup [.int (i : Nat), .str p]) = H5 at *
      have eH : Ex H H5 := fun c w hc => b5 c w (fun z => by rw [z, nA] at hc; cases hc) (e3 c w (e1 c w hc))
      have lls := oa.len
      walk_at "rd"
      refine ⟨_, hTu, rfl, _, _, rfl, _, _, rfl, rfl, ?_⟩
      refine Evl.q_cut (M := fun σ' H' => Ex H5 H' ∧ ((opIn p = none ∧ σ' = [some (.str x), some (.ref A), some (.int (i : Nat)), some (.str p), some .non]) ∨ ∃ o a, opIn p = some o ∧ H' a = some (.tup (opV o)) ∧ σ' = [some (.str x), some (.ref A), some (.int (i : Nat)), some (.str p), some (.ref a)])) ?_ ?_
      · unfold sp_operation_in
        walk_at "rd"
        have pm := pmem p (List.mem_of_getElem? hp)
        exact ⟨pm.1, pm.2, fun o ho H6 a e6 na ha => ⟨e6, o, ho, a, ha, rfl⟩, fun hn H6 e6 => ⟨e6, hn⟩⟩
      rintro σ H6 ⟨e6, hc⟩
      rcases hc with ⟨hn, rfl⟩ | ⟨o, a, ho, ha, rfl⟩
      · refine Evl.q_cut (M := fun _ _ => False) ?_ (fun _ _ h => h.elim)
        walk_at "rd"
        intro d hd
        refine q1 i p hp hn (fun j q hj hq => ?_) _ d ((eH.trans e6).trans (exn hd)) (Evl.fresh_back (eH.trans e6) hd) upd_same
        have h1 : ((partsOf x).take i)[j]? = some q := by rw [List.getElem?_take, if_pos hj, hq]
        have h2 := congrArg (fun l => l[j]?) hos
        rw [List.getElem?_map, List.getElem?_map, h1] at h2
        cases h3 : os[j]? with
        | none => rw [h3] at h2; cases h2
        | some o =>
          rw [h3] at h2
          rw [show opIn q = some o from Option.some.inj h2]
          rfl
      · refine Evl.q_cut (M := fun σ' H' => σ' = [some (.str x), some (.ref A), some (.int (i : Nat)), some (.str p), some (.ref a)] ∧ H6 = H') ?_ ?_
        · walk_at "rd"
        rintro σ _ ⟨rfl, rfl⟩
        walk_at "rd"
        have oko : opOk o := by
          unfold opIn at ho
          cases hs : Txt.split p " " with
          | nil => rw [hs] at ho; cases ho
          | cons w0 wr => rw [hs] at ho; exact ((foundD_op w0 wr).2 o ho).2
        refine ⟨⟨_, sq_l (e6 _ _ hA5)⟩, ls, e6 _ _ hA5, by omega, ?_⟩
        have naA : a ≠ A := fun z => by rw [z, e6 _ _ hA5] at ha; cases ha
        refine ⟨(b5.trans (But.ex e6)).trans (But.upd rfl), os ++ [o], ?_, ?_⟩
        · refine ((oa5.ex e6).app (.one ha oko)).keep fun b xs h => ?_
          rw [upd_ne (fun z => by rw [z, e6 _ _ hA5] at h; cases h)]
          exact h
        · obtain ⟨hl2, e9⟩ := List.getElem?_eq_some_iff.mp hp
          rw [List.take_succ_eq_append_getElem hl2, List.map_append, List.map_append, hos, e9]
          show _ ++ [opIn p] = _ ++ [some o]
          rw [ho]
  rintro σ H2 ⟨y, z, u, os, ls, rfl, e2, hA2, oa, hos⟩
  walk_at "rd"
  have ll := oa.len
  refine ⟨ls, .inl (sq_l hA2), ?_⟩
  refine ite2 (fun h => ⟨ls, .inl (sq_l hA2), fun d hd => ?_⟩) fun h => ?_
  · rw [ll]
    exact q2 os hos (by omega) _ d (e2.trans (exn hd)) (Evl.fresh_back e2 hd) upd_same
  · exact q3 os hos (by omega) H2 A ls e2 nA hA2 oa
/-! ### reading leads back -/
theorem join_one (sep p : Str) : (Txt.join sep [p]).cps.toList = p.cps.toList := by
  rw [join_list]
  unfold joinL
  simp
theorem join_two (sep p q : Str) : (Txt.join sep [p, q]).cps.toList = p.cps.toList ++ sep.cps.toList ++ q.cps.toList := by
  rw [join_list]
  unfold joinL
  simp
theorem num_cps {n : Int} (h0 : 0 ≤ n) (h1 : n ≤ 10 ^ 30) : (Str.ofString (toString n)).cps.toList = dg n.toNat ∧ (dg n.toNat).length ≤ 31 := by
  obtain ⟨k, rfl⟩ := Int.eq_ofNat_of_zero_le h0
  refine ⟨cps_nat k, dg_len 30 k ?_⟩
  have : (k : Int) < 10 ^ 31 := by omega
  exact_mod_cast this
theorem sp_cps : (" " : Str).cps.toList = [32] := by decide +kernel
theorem cm_cps : (", " : Str).cps.toList = [44, 32] := by decide +kernel
theorem whole_num {n : Int} (h0 : 0 ≤ n) (h1 : n ≤ 10 ^ 30) : wholeW (Str.ofString (toString n)) = some n := by
  obtain ⟨e, l⟩ := num_cps h0 h1
  have hd := dg_all n.toNat
  have hne := dg_nil n.toNat
  unfold wholeW
  have c1 : Str.ofString (toString n) ≠ "" := fun z => hne (by rw [← e, z]; rfl)
  have c2 : ¬ 100 < (Str.ofString (toString n)).length := by rw [len_cps, e]; omega
  have c3 : (Str.ofString (toString n)).cps.toList.all isDig = true := by
    rw [e, List.all_eq_true]
    exact fun c hc => decide_eq_true (hd c hc)
  rw [if_neg (fun z => by rcases z with z | z | z; exact c1 z; exact c2 z; rw [c3] at z; cases z), if_neg, e, dg_val, Int.toNat_of_nonneg h0]
  rintro ⟨z1, z2⟩
  rw [e] at z1
  by_cases hn : n.toNat = 0
  · refine z2 (str_ext ?_)
    rw [e, hn]
    decide +kernel
  · obtain ⟨c, r, e9, hc⟩ := dg_head _ hn
    rw [e9] at z1
    exact hc (Option.some.inj z1)
/-- the signs of an operation's text -/
theorem opS_signs {o : Op} (ok : opOk o) : (∀ w ∈ opWs o, ∀ c ∈ w.cps.toList, c ≠ 32 ∧ c ≠ 44 ∧ c < 128) ∧ (∀ c ∈ (opS o).cps.toList, c ≠ 44 ∧ c < 128) ∧ (opS o).length ≤ 36 ∧ (opS o).cps.toList ≠ [] := by
  have wd : ∀ w : Str, w = "go" ∨ w = "keep" ∨ w = "take" ∨ w = "free" ∨ w = "back" → (∀ c ∈ w.cps.toList, c ≠ 32 ∧ c ≠ 44 ∧ c < 128) ∧ w.cps.toList.length ≤ 4 ∧ w.cps.toList ≠ [] := by
    rintro w (rfl | rfl | rfl | rfl | rfl) <;> decide +kernel
  have nm : ∀ n : Int, 0 ≤ n → n ≤ 10 ^ 30 → (∀ c ∈ (Str.ofString (toString n)).cps.toList, c ≠ 32 ∧ c ≠ 44 ∧ c < 128) ∧ (Str.ofString (toString n)).cps.toList.length ≤ 31 := fun n h0 h1 => by
    obtain ⟨e, l⟩ := num_cps h0 h1
    rw [e]
    exact ⟨fun c hc => by have := dg_all n.toNat c hc; omega, l⟩
  have one : ∀ w : Str, (w = "go" ∨ w = "keep" ∨ w = "take" ∨ w = "free" ∨ w = "back") → (∀ x ∈ [w], ∀ c ∈ x.cps.toList, c ≠ 32 ∧ c ≠ 44 ∧ c < 128) ∧ (∀ c ∈ (Txt.join " " [w]).cps.toList, c ≠ 44 ∧ c < 128) ∧ (Txt.join " " [w]).length ≤ 36 ∧ (Txt.join " " [w]).cps.toList ≠ [] := fun w hw => by
    obtain ⟨h1, h2, h3⟩ := wd w hw
    rw [len_cps, join_one]
    refine ⟨fun x hx c hc => ?_, fun c hc => (h1 c hc).2, by omega, h3⟩
    rw [List.mem_singleton.mp hx] at hc
    exact h1 c hc
  have two : ∀ (w : Str) (n : Int), (w = "go" ∨ w = "keep" ∨ w = "take" ∨ w = "free" ∨ w = "back") → 0 ≤ n → n ≤ 10 ^ 30 → (∀ x ∈ [w, Str.ofString (toString n)], ∀ c ∈ x.cps.toList, c ≠ 32 ∧ c ≠ 44 ∧ c < 128) ∧ (∀ c ∈ (Txt.join " " [w, Str.ofString (toString n)]).cps.toList, c ≠ 44 ∧ c < 128) ∧ (Txt.join " " [w, Str.ofString (toString n)]).length ≤ 36 ∧ (Txt.join " " [w, Str.ofString (toString n)]).cps.toList ≠ [] := fun w n hw h0 h9 => by
    obtain ⟨h1, h2, h3⟩ := wd w hw
    obtain ⟨g1, g2⟩ := nm n h0 h9
    rw [len_cps, join_two, sp_cps]
    refine ⟨fun x hx c hc => ?_, fun c hc => ?_, ?_, ?_⟩
    · rcases List.mem_cons.mp hx with rfl | hx
      · exact h1 c hc
      · rw [List.mem_singleton.mp hx] at hc
        exact g1 c hc
    · rcases List.mem_append.mp hc with hc | hc
      · rcases List.mem_append.mp hc with hc | hc
        · exact (h1 c hc).2
        · rw [List.mem_singleton.mp hc]; decide
      · exact (g1 c hc).2
    · simp only [List.length_append, List.length_cons, List.length_nil]
      omega
    · simp
  cases o with
  | go k => exact two "go" k (.inl rfl) (by have := ok.1; omega) ok.2
  | keep => exact one "keep" (.inr (.inl rfl))
  | take k => exact two "take" k (.inr (.inr (.inl rfl))) ok.1 ok.2
  | free k => exact two "free" k (.inr (.inr (.inr (.inl rfl)))) ok.1 ok.2
  | back => exact one "back" (.inr (.inr (.inr (.inr rfl))))
theorem opIn_opS {o : Op} (ok : opOk o) : opIn (opS o) = some o := by
  have sg := (opS_signs ok).1
  have e : Txt.split (opS o) " " = opWs o := by
    unfold opS
    have go : ∀ p r, opWs o = p :: r → Txt.split (Txt.join " " (opWs o)) " " = opWs o := fun p r h => by
      rw [h] at sg ⊢
      exact split_join (c := 32) (t := []) sp_cps List.not_mem_nil (by rw [sp_cps]; intro x hx; rw [List.mem_singleton.mp hx]; decide) p r fun q hq z => (sg q hq 32 z).1 rfl
    cases o <;> exact go _ _ rfl
  unfold opIn
  rw [e]
  cases o with
  | go k =>
    show opIn2 "go" (wholeW _) = _
    rw [whole_num (by have := ok.1; omega) ok.2]
    exact if_pos ⟨rfl, ok⟩
  | keep =>
    show opIn1 "keep" = _
    unfold opIn1
    exact if_pos rfl
  | take k =>
    show opIn2 "take" (wholeW _) = _
    rw [whole_num ok.1 ok.2]
    unfold opIn2
    show (if _ then _ else _) = _
    rw [if_neg (fun z => absurd z.1 (by decide +kernel))]
    exact if_pos ⟨rfl, ok.2⟩
  | free k =>
    show opIn2 "free" (wholeW _) = _
    rw [whole_num ok.1 ok.2]
    unfold opIn2
    show (if _ then _ else _) = _
    rw [if_neg (fun z => absurd z.1 (by decide +kernel)), if_neg (fun z => absurd z.1 (by decide +kernel))]
    exact if_pos ⟨rfl, ok.2⟩
  | back =>
    show opIn1 "back" = _
    unfold opIn1
    rw [if_neg (by decide +kernel)]
    exact if_pos rfl
theorem joinL_mem {B : List Nat} : ∀ {r : List (List Nat)} {p : List Nat} {c : Nat}, c ∈ joinL B p r → c ∈ B ∨ ∃ q ∈ p :: r, c ∈ q
  | [], p, c, h => by
    unfold joinL at h
    rw [List.flatMap_nil, List.append_nil] at h
    exact .inr ⟨p, List.mem_cons_self .., h⟩
  | q :: r, p, c, h => by
    rw [joinL_cons] at h
    rcases List.mem_append.mp h with h | h
    · rcases List.mem_append.mp h with h | h
      · exact .inr ⟨p, List.mem_cons_self .., h⟩
      · exact .inl h
    · rcases joinL_mem h with h | ⟨x, hx, h⟩
      · exact .inl h
      · exact .inr ⟨x, List.mem_cons_of_mem _ hx, h⟩
theorem joinL_len {B : List Nat} {m : Nat} : ∀ {r : List (List Nat)} {p : List Nat}, (∀ q ∈ p :: r, q.length ≤ m) → (joinL B p r).length ≤ (m + B.length) * (r.length + 1)
  | [], p, h => by
    unfold joinL
    have := h p (List.mem_cons_self ..)
    simp
    omega
  | q :: r, p, h => by
    rw [joinL_cons]
    have h1 := h p (List.mem_cons_self ..)
    have h2 := joinL_len (B := B) (r := r) (p := q) fun x hx => h x (List.mem_cons_of_mem _ hx)
    simp only [List.length_append, List.length_cons]
    rw [Nat.mul_add (m + B.length) (r.length + 1) 1]
    omega
theorem showT_facts {os : List Op} (ok : ∀ o ∈ os, opOk o) : (∀ c ∈ (showT os).cps.toList, c < 128) ∧ (showT os).length ≤ 40 * os.length ∧ (partsOf (showT os)).map opIn = os.map some := by
  match os, ok with
  | [], _ =>
    have e : showT [] = "" := by decide +kernel
    rw [e]
    refine ⟨by decide +kernel, by decide +kernel, ?_⟩
    unfold partsOf
    rw [if_pos rfl]
    rfl
  | o :: r, ok =>
    have e : (showT (o :: r)).cps.toList = joinL [44, 32] (opS o).cps.toList (r.map fun o => (opS o).cps.toList) := by
      unfold showT
      rw [List.map_cons, join_list, cm_cps, List.map_map]
      rfl
    have me : ∀ q ∈ (opS o).cps.toList :: (r.map fun o => (opS o).cps.toList), ∃ x ∈ o :: r, q = (opS x).cps.toList := fun q hq => by
      rcases List.mem_cons.mp hq with rfl | hq
      · exact ⟨o, List.mem_cons_self .., rfl⟩
      · obtain ⟨x, hx, rfl⟩ := List.mem_map.mp hq
        exact ⟨x, List.mem_cons_of_mem _ hx, rfl⟩
    refine ⟨fun c hc => ?_, ?_, ?_⟩
    · rw [e] at hc
      rcases joinL_mem hc with h | ⟨q, hq, h⟩
      · simp only [List.mem_cons, List.not_mem_nil, or_false] at h
        omega
      · obtain ⟨x, hx, rfl⟩ := me q hq
        exact ((opS_signs (ok x hx)).2.1 c h).2
    · rw [len_cps, e]
      have := joinL_len (B := [44, 32]) (m := 36) (p := (opS o).cps.toList) (r := r.map fun o => (opS o).cps.toList) fun q hq => by
        obtain ⟨x, hx, rfl⟩ := me q hq
        exact (opS_signs (ok x hx)).2.2.1
      rw [List.length_map] at this
      rw [List.length_cons]
      have l2 : [44, 32].length = 2 := rfl
      rw [l2] at this
      omega
    · have ne : showT (o :: r) ≠ "" := fun z => by
        have h := congrArg (fun t => t.cps.toList.length) z
        have h0 : (showT (o :: r)).cps.toList.length = 0 := h
        rw [e] at h0
        have := (opS_signs (ok o (List.mem_cons_self ..))).2.2.2
        unfold joinL at h0
        rw [List.length_append] at h0
        exact this (List.length_eq_zero_iff.mp (by omega))
      have sp : partsOf (showT (o :: r)) = (o :: r).map opS := by
        unfold partsOf
        rw [if_neg ne]
        unfold showT
        rw [List.map_cons]
        refine split_join (c := 44) (t := [32]) cm_cps (by decide) (by rw [cm_cps]; intro x hx; simp only [List.mem_cons, List.not_mem_nil, or_false] at hx; omega) _ _ fun q hq z => ?_
        rw [← List.map_cons] at hq
        obtain ⟨x, hx, rfl⟩ := List.mem_map.mp hq
        exact ((opS_signs (ok x hx)).2.1 44 z).1 rfl
      rw [sp, List.map_map]
      refine List.map_congr_left fun x hx => ?_
      exact opIn_opS (ok x hx)
/-! ### lists of operations, drawn -/
def facN : Nat → Nat
  | 0 => 1
  | s + 1 => facN s * (s + 1)
theorem R_low (r : Nat) : ∀ s : Nat, (r + 1) ^ s ≤ R s r * facN s
  | 0 => by rw [R_0]; exact Nat.le_refl _
  | s + 1 => by
    have ih := R_low r s
    have e : R (s + 1) r * facN (s + 1) = (R s r * facN s) * (s + r + 1) := by
      show R (s + 1) r * (facN s * (s + 1)) = _
      rw [Nat.mul_comm (facN s) (s + 1), ← Nat.mul_assoc, R_up, Nat.mul_assoc, Nat.mul_comm (s + r + 1), ← Nat.mul_assoc]
    rw [e, Nat.pow_succ]
    exact Nat.mul_le_mul ih (by omega)
theorem pb_great {n s : Int} (h1 : 1 ≤ n) (h2 : n ≤ 10 ^ 30) (h3 : 20 ≤ s) (h4 : s ≤ 100) : PB n s := by
  refine ⟨h1, h2, by omega, h4, (rho_le h1 (by omega) (by decide)).mpr ?_⟩
  have a : (10 : Nat) ^ 30 ≤ R 20 1000 := by
    have h := R_low 1000 20
    have c : (10 : Nat) ^ 30 * facN 20 ≤ (1000 + 1) ^ 20 := by decide +kernel
    exact Nat.le_of_mul_le_mul_right (Nat.le_trans c h) (by decide +kernel)
  have b : Rz 20 1000 ≤ Rz s 1000 := Rz_mono_l (by decide) h3 (by decide)
  have c : Rz 20 1000 = (R 20 1000 : Nat) := Rz_nat 20 1000
  have d : ((10 ^ 30 : Nat) : Int) ≤ (R 20 1000 : Nat) := by exact_mod_cast a
  have e : ((10 ^ 30 : Nat) : Int) = 10 ^ 30 := by decide +kernel
  omega
theorem pb_little {n s : Int} (hn : 1 ≤ n) (h2 : n ≤ 1000) (hs : 1 ≤ s) (hs2 : s ≤ 100) : PB n s :=
  ⟨hn, by omega, hs, hs2, by have := rho_lt hn hs; omega⟩
/-- lists of operations, by the addresses that a list holds -/
def LsAt (H : Hp) (as : List Addr) (oss : List (List Op)) : Prop := as.length = oss.length ∧ ∀ (i : Nat) (a : Addr), as[i]? = some a → ∃ os, oss[i]? = some os ∧ OpL H a os
theorem OpL.keep {H H' : Hp} {a : Addr} {os : List Op} (k : ∀ b xs, H b = some (.tup xs) → H' b = some (.tup xs)) (ka : ∀ xs, H a = some (.lst xs) → H' a = some (.lst xs)) (h : OpL H a os) : OpL H' a os := by
  obtain ⟨ls, h2, h3, h4⟩ := h
  exact ⟨ls, ka _ h2, ops_keep k h3, h4⟩
theorem OpL.mo {H H' : Hp} {r a : Addr} {os : List Op} (m : Mo r H H') (l : ∃ ys, H r = some (.lst ys)) (na : a ≠ r) (h : OpL H a os) : OpL H' a os :=
  h.keep (fun b xs hb => m b _ (fun z => by obtain ⟨ys, hy⟩ := l; rw [z, hy] at hb; cases hb) hb) fun xs hx => m a _ na hx
theorem LsAt.ex {H H' : Hp} {as : List Addr} {oss : List (List Op)} (e : Ex H H') (h : LsAt H as oss) : LsAt H' as oss :=
  ⟨h.1, fun i a hi => by obtain ⟨os, h1, h2⟩ := h.2 i a hi; exact ⟨os, h1, h2.ex e⟩⟩
theorem LsAt.mo {H H' : Hp} {r : Addr} {as : List Addr} {oss : List (List Op)} (m : Mo r H H') (l : ∃ ys, H r = some (.lst ys)) (na : ∀ a ∈ as, a ≠ r) (h : LsAt H as oss) : LsAt H' as oss :=
  ⟨h.1, fun i a hi => by obtain ⟨os, h1, h2⟩ := h.2 i a hi; exact ⟨os, h1, h2.mo m l (na a (List.mem_of_getElem? hi))⟩⟩
theorem LsAt.nil {H : Hp} : LsAt H [] [] := ⟨rfl, fun i a h => by cases h⟩
theorem LsAt.cons {H : Hp} {a : Addr} {as : List Addr} {os : List Op} {oss : List (List Op)} (h1 : OpL H a os) (h : LsAt H as oss) : LsAt H (a :: as) (os :: oss) :=
  ⟨by rw [List.length_cons, List.length_cons, h.1], fun i b hi => by
    cases i with
    | zero => cases hi; exact ⟨os, rfl, h1⟩
    | succ i => exact h.2 i b hi⟩
theorem Bag.lst {H : Hp} {r : Addr} (h : Bag H r) : ∃ ys, H r = some (.lst ys) := by
  obtain ⟨a, b, c, h, _⟩ := h
  exact ⟨_, h⟩
def sp_L_lists (K : PySem.W.Frag) : Sp := sp1 fun x H Q _ => ∃ (r : Addr), x = .ref r ∧ Bag H r ∧ ∀ (n s m : Int) (o3 : List Op) p L a0 a1 a2 a3 H', 1 ≤ n → n ≤ 12 → 1 ≤ s → s ≤ 5 → 1 ≤ m → m ≤ 9 → o3.length = 8 → Mo r H H' → Bag H' r →
  H' p = some (.tup [.int n, .int s, .ref L]) → L ≠ r → H' L = some (.lst ([a0, a1, a2, a3].map V.ref)) → (∀ a ∈ [a0, a1, a2, a3], a ≠ r) → LsAt H' [a0, a1, a2, a3] [opsL n s 0, [], opsL m 2 0, o3] → Q (.ref p) H'
theorem sc_L_lists : FnScope ["_law_bag_here", "_law_length", "_law_slots", "_law_found", "_law_great", "_law_many", "_law_begin", "_law_number"] ["_law_bag_here"] (defScope s_L_lists) := ⟨rfl, rfl, rfl, by decide +kernel, rfl, by decide +kernel, by decide +kernel⟩
theorem ok_L_lists (T : Txt P w K mg base) : FnOk P w K mg base (L2.CX P w) 7 T.a_L_lists T.fd_L_lists ["_law_bag_here"] (sp_L_lists K) := by
  refine FunD.ok T.F_L_lists sc_L_lists (fun vs H Q E h => ar1 h) (fun cdv A fr s H vs Q E hr h => ⟨_, PSs.nox (Evl.pss_cut (ps_par (i := 1) (j := 2) (by rfl) sc_L_lists.nd rfl rfl (by decide) rfl rfl (pa_cons (pe_op op_add pe_int (pe_call (ok_L_pick T) (hr.mono (by decide)) (by rfl) T.g_L_pick T.F_L_pick.kp T.b_L_pick .nil passL (pa_cons (pv 0) (pa_cons pe_int pa_nil)))) (pa_cons (pe_op op_add pe_int (pe_call (ok_L_pick T) (hr.mono (by decide)) (by rfl) T.g_L_pick T.F_L_pick.kp T.b_L_pick .nil passL (pa_cons (pv 0) (pa_cons pe_int pa_nil)))) pa_nil)) (by rfl)) (Evl.pss_cut (ps_set (i := 3) sc_L_lists.nd rfl (.inl rfl) (pe_lst (pa_cons (pe_call (ok_plan_list T) hr (by rfl) T.g_plan_list T.F_plan_list.kp T.b_plan_list .nil passL (pa_cons (pv 1) (pa_cons (pv 2) pa_nil))) (pa_cons (pe_lst pa_nil) (pa_cons (pe_call (ok_plan_list T) hr (by rfl) T.g_plan_list T.F_plan_list.kp T.b_plan_list .nil passL (pa_cons (pe_op op_add pe_int (pe_call (ok_L_pick T) (hr.mono (by decide)) (by rfl) T.g_L_pick T.F_L_pick.kp T.b_L_pick .nil passL (pa_cons (pv 0) (pa_cons pe_int pa_nil)))) (pa_cons pe_int pa_nil))) pa_nil))))) (Evl.pss_cut (ps_asg (pe_tup (pa_cons (pe_op op_add (pe_op op_powC pe_int pe_int) (pe_call (ok_L_pick T) (hr.mono (by decide)) (by rfl) T.g_L_pick T.F_L_pick.kp T.b_L_pick .nil passL (pa_cons (pv 0) (pa_cons (pe_op op_powC pe_int pe_int) pa_nil)))) (pa_cons (pe_op op_add pe_int (pe_call (ok_L_pick T) (hr.mono (by decide)) (by rfl) T.g_L_pick T.F_L_pick.kp T.b_L_pick .nil passL (pa_cons (pv 0) (pa_cons pe_int pa_nil)))) pa_nil))) (pg_tupT (n := 2) rfl (pgs_cons (pg_name (i := 4) sc_L_lists.nd rfl (.inr rfl)) (pgs_cons (pg_name (i := 5) sc_L_lists.nd rfl (.inr rfl)) pgs_nil)))) (Evl.pss_cut (ps_set (i := 6) sc_L_lists.nd rfl (.inr rfl) (pe_call (ok_L_pick T) (hr.mono (by decide)) (by rfl) T.g_L_pick T.F_L_pick.kp T.b_L_pick .nil passL (pa_cons (pv 0) (pa_cons (pe_op op_sub (pe_call (ok_operation_count T) hr (by rfl) T.g_operation_count T.F_operation_count.kp T.b_operation_count .nil passL (pa_cons (pv 4) (pa_cons (pv 5) pa_nil))) pe_int) pa_nil)))) (pss_one (ps_ret (pe_tup (pa_cons (pv 1) (pa_cons (pv 2) (pa_cons (pe_op op_cat (pv 3) (pe_lst (pa_cons (pe_lc (own := [("_law_number", 7)]) rfl sc_L_lists.nd (pi_range1 (by rfl) T.n_range (pa_cons pe_int pa_nil)) (blkOk_by (N := ["_law_bag_here", "_law_length", "_law_slots", "_law_found", "_law_great", "_law_many", "_law_begin", "_law_number"]) (sc := defScope s_L_lists) (by decide +kernel)) (fun _ _ _ _ _ => (pg_name (i := 7) sc_L_lists.nd rfl (Or.inl rfl))) (fun _ _ _ _ _ => pts_nil) (fun _ _ _ _ _ => (pe_call (ok_operation_at T) hr (by rfl) T.g_operation_at T.F_operation_at.kp T.b_operation_at .nil passL (pa_cons (pv 4) (pa_cons (pv 5) (pa_cons (pe_op op_add (pv 6) (pv 7)) pa_nil)))))) pa_nil))) pa_nil)))))))))), ?_⟩)
  obtain ⟨_, rfl, r, rfl, hR, q⟩ := h
  refine Evl.q_cut (M := fun σ' H' => ∃ n s, σ' = [some (.ref r), some (.int n), some (.int s), none, none, none, none, none] ∧ 1 ≤ n ∧ n ≤ 12 ∧ 1 ≤ s ∧ s ≤ 5 ∧ Mo r H H' ∧ Bag H' r) ?_ ?_
  · unfold sp_L_pick
    walk_at "rd"
    exact ⟨hR, fun n H1 n0 n1 o1 R1 => ⟨R1, fun s H2 s0 s1 o2 R2 => ⟨by omega, by omega, by omega, by omega, o1.trans o2, R2⟩⟩⟩
  rintro σ H1 ⟨n, s, rfl, n1, n2, s1, s2, o1, R1⟩
  refine Evl.q_cut (M := fun σ' H' => ∃ F m a0 a1 a2, σ' = [some (.ref r), some (.int n), some (.int s), some (.ref F), none, none, none, none] ∧ Mo r H1 H' ∧ Bag H' r ∧ 1 ≤ m ∧ m ≤ 9 ∧ F ≠ r ∧ H' F = some (.lst ([a0, a1, a2].map V.ref)) ∧ (∀ a ∈ [a0, a1, a2], a ≠ r) ∧ LsAt H' [a0, a1, a2] [opsL n s 0, [], opsL m 2 0]) ?_ ?_
  · unfold sp_L_pick sp_plan_list
    walk_at "rd"
    have g1 := opsN_ge n s n1 s1
    have one : ∀ {x : Addr} {b : Hp} {os : List Op}, OpL b x os → x ≠ r → True := fun _ _ => trivial
    refine ⟨pb_little n1 (by omega) s1 (by omega), fun l1 v H2 e2 hv p hp => ?_, fun l => by omega⟩
    obtain ⟨A, rfl, oA⟩ := plan_opl n1 (by omega) s1 l1 hv
    have nA : A ≠ r := by
      obtain ⟨_, _, h, sA, _⟩ := rp_list hv
      cases h
      exact R1.ne sA
    have R2 := R1.ex e2
    have np := R2.ne hp
    refine ⟨R2.ex (exn hp), fun z H3 z0 z1 o3 R3 => ?_⟩
    have g2 := opsN_ge (1 + z) 2 (by omega) (by omega)
    refine ⟨pb_little (by omega) (by omega) (by omega) (by omega), fun l2 v H4 e4 hv2 p2 hp2 => ?_, fun l => by omega⟩
    obtain ⟨B, rfl, oB⟩ := plan_opl (by omega) (by omega) (by omega) l2 hv2
    have nB : B ≠ r := by
      obtain ⟨_, _, h, sB, _⟩ := rp_list hv2
      cases h
      exact R3.ne sB
    have e5 := exn (o := .lst [.ref A, .ref p, .ref B]) hp2
    have m2 : Mo r H2 H3 := Ex.to_mo (exn hp) o3
    refine ⟨(Ex.to_mo e2 m2).trans (Mo.ex (e4.trans e5)), (R3.ex e4).ex e5, 1 + z, by omega, by omega, (R3.ex e4).ne hp2, A, rfl, B, rfl, ?_, ?_⟩
    · intro a ha
      simp only [List.mem_cons, List.not_mem_nil, or_false] at ha
      rcases ha with rfl | rfl | rfl
      · exact nA
      · exact np
      · exact nB
    · refine .cons (((oA.mo m2 R2.lst nA).ex e4).ex e5) (.cons ?_ (.cons (oB.ex e5) .nil))
      exact ⟨[], (e4.trans e5) _ _ (o3 _ _ np upd_same), .nil, (fun o h => nomatch h), Nat.zero_le _⟩
  rintro σ H2 ⟨F, m, a0, a1, a2, rfl, o2, R2, m1, m2, nF, hF, na, la⟩
  refine Evl.q_cut (M := fun σ' H' => ∃ g k, σ' = [some (.ref r), some (.int n), some (.int s), some (.ref F), some (.int g), some (.int k), none, none] ∧ Mo r H2 H' ∧ Bag H' r ∧ 10 ^ 9 ≤ g ∧ g ≤ 10 ^ 30 ∧ 20 ≤ k ∧ k ≤ 100) ?_ ?_
  · unfold sp_L_pick
    walk_at "rd"
    refine ⟨R2, fun z H3 z0 z1 o3 R3 => ⟨R3, fun y H4 y0 y1 o4 R4 p hp => ?_⟩⟩
    first | exact ⟨_, upd_same, rfl, (o3.trans o4).trans (Mo.ex (exn hp)), R4.ex (exn hp), by omega, by omega, by omega, by omega⟩ | exact ⟨(o3.trans o4).trans (Mo.ex (exn hp)), R4.ex (exn hp), by omega, by omega, by omega, by omega⟩
  rintro σ H3 ⟨g, k, rfl, o3, R3, g1, g2, k1, k2⟩
  have pb := pb_great (n := g) (s := k) (by omega) g2 k1 k2
  have og := opsN_ge g k (by omega) (by omega)
  refine Evl.q_cut (M := fun σ' H' => ∃ c, σ' = [some (.ref r), some (.int n), some (.int s), some (.ref F), some (.int g), some (.int k), some (.int c), none] ∧ Mo r H3 H' ∧ Bag H' r ∧ 0 ≤ c ∧ c + 8 < opsN g k) ?_ ?_
  · unfold sp_L_pick sp_operation_count
    walk_at "rd"
    exact ⟨pb, fun H4 e4 => ⟨R3.ex e4, by omega, by omega, fun z H5 z0 z1 o5 R5 => ⟨Ex.to_mo e4 o5, R5, z0, by omega⟩⟩⟩
  rintro σ H4 ⟨c, rfl, o4, R4, c0, c1⟩
  unfold sp_operation_at
  walk_at "rd"
  have l3 := la.ex (.refl _)
  have R24 : Mo r H2 H4 := o3.trans o4
  have la4 := la.mo R24 R2.lst na
  refine lc_rng (n := 8) (fun i => opD (opAt g k 0 (c + i))) (fun R q => q) (by omega) (fun _ => rfl) (fun i H5 hi e R kk => ?_) ?_
  · simp only [wipe]
    walk_at "rd"
    exact ⟨pb, by omega, by omega, fun p H' hp e' h' => kk _ H' e' (op_rp hp h')⟩
  intro v H5 e5 hv p hp
  have hF5 := (exn (o := .lst [v]) hp) _ _ (e5 _ _ (R24 _ _ nF hF))
  refine ⟨_, hF5, (show 3 ≤ 16777215 by decide), fun p1 hp1 p2 hp2 => ?_⟩
  obtain ⟨a3, xs, rfl, sa, ha, rx, lx⟩ := rp_list hv
  have e6 := (exn (o := .lst [.ref a3]) hp)
  have e7 := e6.trans (exn (o := .lst ([a0, a1, a2].map V.ref ++ [.ref a3])) hp1)
  have e8 := e7.trans (exn (o := .tup [.int n, .int s, .ref p1]) hp2)
  have R5 := R4.ex e5
  have np1 : p1 ≠ r := (R5.ex e6).ne hp1
  have na3 : a3 ≠ r := R4.ne sa
  have mm : Mo r H H5 := (o1.trans o2).trans (R24.trans (Mo.ex e5))
  refine q n s m ((List.range 8).map fun (i : Nat) => opAt g k 0 (c + (i : Int))) p2 p1 a0 a1 a2 a3 _ n1 n2 s1 s2 m1 m2 rfl (mm.trans (Mo.ex e8)) (R5.ex e8) upd_same np1 (exn hp2 _ _ upd_same) ?_ ?_
  · intro a h
    simp only [List.mem_cons, List.not_mem_nil, or_false] at h
    rcases h with rfl | rfl | rfl | rfl
    · exact na _ (by simp)
    · exact na _ (by simp)
    · exact na _ (by simp)
    · exact na3
  · have la8 := (la4.ex e5).ex e8
    refine .cons ?_ (.cons ?_ (.cons ?_ (.cons ?_ .nil)))
    · obtain ⟨os, h1, h2⟩ := la8.2 0 a0 rfl; cases h1; exact h2
    · obtain ⟨os, h1, h2⟩ := la8.2 1 a1 rfl; cases h1; exact h2
    · obtain ⟨os, h1, h2⟩ := la8.2 2 a2 rfl; cases h1; exact h2
    · refine OpL.ex e8 ⟨xs, ha, ?_, fun o ho => ?_, (show 8 ≤ 400 by decide)⟩
      · rw [List.map_map]
        exact rx.sub fun _ _ => trivial
      · obtain ⟨i, hi, rfl⟩ := List.mem_map.mp ho
        have hi := List.mem_range.mp hi
        have h := plan_opOk (n := g) (s := k) (by omega) g2 (by omega) _ (List.mem_of_getElem? (opsL_at g k (by omega) (by omega) 0 (c.toNat + i) (by omega)))
        rw [show ((c.toNat + i : Nat) : Int) = c + (i : Int) by omega] at h
        exact h
/-! ### the law -/
theorem cut_m1 (xs : List V) : cutV xs none (some (-1)) = xs.dropLast := by
  unfold cutV
  have e : HT.sIx xs.length xs.length (some (-1)) = xs.length - 1 := by
    show (if (-1 : Int) < 0 then ((-1 : Int) + (xs.length : Int)).toNat else min (-1 : Int).toNat xs.length) = xs.length - 1
    rw [if_pos (by decide)]
    omega
  rw [e, HT.sIx_none]
  show List.take (xs.length - 1 - 0) xs = _
  rw [Nat.sub_zero, List.dropLast_eq_take]
theorem OpA.dp {K : PySem.W.Frag} {H : Hp} {a : Addr} {xs : List V} {os : List Op} (h : OpA H xs os) (ha : H a = some (.lst xs)) : Dp K H (.ref a) (.list (os.map opD)) := .lst (sq_l ha) h.1.dp
theorem opsF {os : List Op} (h : ∀ o ∈ os, opOk o) (l : os.length ≤ 5000) : fine 20 (.list (os.map opD)) = true := (ops_fine (fun o ho => by have := opOk_num (h o ho); exact ⟨this.1, by omega⟩) l).1
theorem RpA.take {H : Hp} {S : Addr → Prop} : ∀ (c : Nat) {xs : List V} {ds : List PyData}, RpA H S xs ds → RpA H S (xs.take c) (ds.take c)
  | 0, _, _, _ => by rw [List.take_zero, List.take_zero]; exact .nil
  | c + 1, _, _, .nil => .nil
  | c + 1, _, _, .cons h r => .cons h (r.take c)
theorem OpA.take {H : Hp} {xs : List V} {os : List Op} (c : Nat) (h : OpA H xs os) : OpA H (xs.take c) (os.take c) := ⟨by rw [List.map_take]; exact h.1.take c, fun o ho => h.2 o (List.mem_of_mem_take ho)⟩
theorem OpL.a {H : Hp} {a : Addr} {os : List Op} (h : OpL H a os) : ∃ ls, H a = some (.lst ls) ∧ OpA H ls os ∧ ls.length = os.length ∧ os.length ≤ 400 := by
  obtain ⟨ls, h1, h2, h3, h4⟩ := h
  exact ⟨ls, h1, ⟨h2, h3⟩, OpA.len ⟨h2, h3⟩, h4⟩
theorem opD_inj {a b : Op} (h : opD a = opD b) : a = b := by
  cases a <;> cases b <;> simp [opD] at h
  all_goals first | rfl | (subst h; rfl) | (exact absurd h (by decide +kernel)) | (exact absurd h.1 (by decide +kernel))
theorem opsD_inj : ∀ {xs ys : List Op}, xs.map opD = ys.map opD → xs = ys
  | [], [], _ => rfl
  | [], _ :: _, h => by cases h
  | _ :: _, [], h => by cases h
  | x :: xs, y :: ys, h => by
    rw [List.map_cons, List.map_cons] at h
    injection h with h1 h2
    rw [opD_inj h1, opsD_inj h2]
theorem opsD_nb : ∀ {xs : List Op}, nbAll (xs.map opD) = true
  | [] => rfl
  | x :: xs => by
    show (nb (opD x) && nbAll (xs.map opD)) = true
    rw [opsD_nb]
    cases x <;> rfl
theorem showT_inj {xs ys : List Op} (h1 : ∀ o ∈ xs, opOk o) (h2 : ∀ o ∈ ys, opOk o) (h : showT xs = showT ys) : xs = ys := by
  have a := (showT_facts h1).2.2
  have b := (showT_facts h2).2.2
  rw [h] at a
  exact map_some_inj (a.symm.trans b)
theorem eqv_ops {xs ys : List Op} (h1 : ∀ o ∈ xs, opOk o) (h2 : ∀ o ∈ ys, opOk o) (l : xs.length ≤ 5000) : PyData.eqv (.list (xs.map opD)) (.list (ys.map opD)) = decide (showT xs = showT ys) := by
  by_cases h : showT xs = showT ys
  · have := showT_inj h1 h2 h
    subst this
    rw [eqv_same (opsF h1 l)]
    exact (decide_eq_true rfl).symm
  · rw [decide_eq_false h]
    refine eqv_ne opsD_nb opsD_nb fun z => h ?_
    injection z with z
    rw [opsD_inj z]
theorem bools_fine {n : Nat} : ∀ {l : List Bool}, fineAll n (l.map PyData.bool) = true
  | [] => rfl
  | b :: l => by
    show (fine n (.bool b) && fineAll n (l.map PyData.bool)) = true
    rw [bools_fine]
    cases n <;> rfl
theorem showT_app {o p : Op} {r t : List Op} : showT (o :: r) ++ ", " ++ showT (p :: t) = showT ((o :: r) ++ (p :: t)) := by
  refine str_ext ?_
  have e : ∀ (o : Op) (r : List Op), (showT (o :: r)).cps.toList = (opS o).cps.toList ++ (r.map fun o => (opS o).cps.toList).flatMap fun q => [44, 32] ++ q := fun o r => by
    unfold showT
    rw [List.map_cons, join_list, cm_cps, List.map_map]
    rfl
  rw [cps_app, cps_app, cm_cps, List.cons_append, e, e, e, List.map_append, List.flatMap_append, List.map_cons, List.flatMap_cons]
  simp only [List.append_assoc]
def sp_law (K : PySem.W.Frag) : Sp := sp1 fun x H Q _ => ∃ (a : Addr) (ns : List Int), x = .ref a ∧ SqL K H a (ns.map V.int) ∧ ns.length ≤ 63 ∧ ∀ H', Q (.bl true) H'
theorem sc_law : FnScope ["_law_script", "_law_cell", "_law_bag_here", "_law_length", "_law_slots", "_law_lists_here", "_law_one", "_law_texts", "_law_text", "_law_both", "_law_told", "_law_other"] ["_law_script"] (defScope s_law) := ⟨rfl, rfl, rfl, by decide +kernel, rfl, by decide +kernel, by decide +kernel⟩
theorem ok_law (T : Txt P w K mg base) : FnOk P w K mg base (L2.CX P w) 8 T.a_law T.fd_law ["_law_script"] (sp_law K) := by
  refine FunD.ok T.F_law sc_law (fun vs H Q E h => ar1 h) (fun cdv A fr s H vs Q E hr h => ⟨_, PSs.nox (pss_cons (ps_for PassesOwn.never rfl (pi_list (pe_op op_cat (pe_slice (r := rSlL K) sl_list (pv 0) po_none (po_some pe_int)) (pe_lst (pa_cons pe_int pa_nil)))) (pg_name (i := 1) sc_law.nd rfl (.inl rfl)) (pss_cons (ps_set (i := 2) sc_law.nd rfl (.inl rfl) (pe_call (ok_L_bag T) (hr.mono (by decide)) (by rfl) T.g_L_bag T.F_L_bag.kp T.b_L_bag .nil passL (pa_cons (pv 1) pa_nil))) (Evl.pss_cut (ps_asg (pe_call (ok_L_lists T) hr (by rfl) T.g_L_lists T.F_L_lists.kp T.b_L_lists .nil passL (pa_cons (pv 2) pa_nil)) (pg_tupT (n := 3) rfl (pgs_cons (pg_name (i := 3) sc_law.nd rfl (.inl rfl)) (pgs_cons (pg_name (i := 4) sc_law.nd rfl (.inl rfl)) (pgs_cons (pg_name (i := 5) sc_law.nd rfl (.inl rfl)) pgs_nil))))) (Evl.pss_cut (ps_set (i := 5) sc_law.nd rfl (.inl rfl) (pe_op op_cat (pv 5) (pe_lst (pa_cons (pe_slice (r := rSlL K) sl_list (pe_ix ix_listT (pv 5) pe_int (fun _ _ => rfl)) po_none (po_some (pe_call (ok_L_pick T) (hr.mono (by decide)) (by rfl) T.g_L_pick T.F_L_pick.kp T.b_L_pick .nil passL (pa_cons (pv 2) (pa_cons (pe_op op_add (pe_callB (r := rLenQ K) call_lenQ (by rfl) T.n_len (by decide +kernel) (pa_cons (pe_ix ix_listT (pv 5) pe_int (fun _ _ => rfl)) pa_nil)) pe_int) pa_nil))))) (pa_cons (pe_slice (r := rSlL K) sl_list (pe_ix ix_listT (pv 5) pe_int (fun _ _ => rfl)) po_none (po_some (pe_un un_neg pe_int))) pa_nil))))) (Evl.pss_cut (ps_setLc (i := 7) (own := [("_law_one", 6)]) rfl sc_law.nd rfl rfl (sw_true rfl rfl rfl (by decide +kernel)) (pi_list (pv 5)) (blkOk_by (N := ["_law_script", "_law_cell", "_law_bag_here", "_law_length", "_law_slots", "_law_lists_here", "_law_one", "_law_texts", "_law_text", "_law_both", "_law_told", "_law_other"]) (sc := defScope s_law) (by decide +kernel)) (fun _ _ _ _ _ => (pg_name (i := 6) sc_law.nd rfl (Or.inl rfl))) (fun _ _ _ _ _ => pts_nil) (fun _ _ _ _ _ => (pe_call (ok_show_list T) (hr.mono (by decide)) (by rfl) T.g_show_list T.F_show_list.kp T.b_show_list .nil passL (pa_cons (pv 6) pa_nil)))) (Evl.pss_cut (ps_for PassesOwn.never rfl (pi_zip (by rfl) T.n_zip (pa_cons (pv 5) (pa_cons (pv 7) pa_nil))) (pg_tupT (n := 2) rfl (pgs_cons (pg_name (i := 6) sc_law.nd rfl (.inr rfl)) (pgs_cons (pg_name (i := 8) sc_law.nd rfl (.inr rfl)) pgs_nil))) (Evl.pss_cut (ps_if (PW.pt (pw_or (pt_cmpR (r := rNeF K) (op_neF hr) (pe_call (ok_read_list T) (hr.mono (by decide)) (by rfl) T.g_read_list T.F_read_list.kp T.b_read_list .nil passL (pa_cons (pv 8) pa_nil)) (pv 6) (nomark _)) (pw_or1 (pt_cmpR op_ne (pe_call (ok_show_list T) (hr.mono (by decide)) (by rfl) T.g_show_list T.F_show_list.kp T.b_show_list .nil passL (pa_cons (pe_call (ok_read_list T) (hr.mono (by decide)) (by rfl) T.g_read_list T.F_read_list.kp T.b_read_list .nil passL (pa_cons (pv 8) pa_nil)) pa_nil)) (pv 8) (nomark _))))) (pss_one (ps_ret pe_bl)) pss_nil) (pss_one (ps_if (pt_cmpR (r := rNeF K) (op_neF hr) (pe_lc (own := [("_law_other", 11)]) rfl sc_law.nd (pi_list (pv 7)) (blkOk_by (N := ["_law_script", "_law_cell", "_law_bag_here", "_law_length", "_law_slots", "_law_lists_here", "_law_one", "_law_texts", "_law_text", "_law_both", "_law_told", "_law_other"]) (sc := defScope s_law) (by decide +kernel)) (fun _ _ _ _ _ => (pg_name (i := 11) sc_law.nd rfl (Or.inl rfl))) (fun _ _ _ _ _ => pts_nil) (fun _ _ _ _ _ => (pe_cmpR op_eq (pv 8) (pv 11) (nomark _)))) (pe_lc (own := [("_law_other", 11)]) rfl sc_law.nd (pi_list (pv 5)) (blkOk_by (N := ["_law_script", "_law_cell", "_law_bag_here", "_law_length", "_law_slots", "_law_lists_here", "_law_one", "_law_texts", "_law_text", "_law_both", "_law_told", "_law_other"]) (sc := defScope s_law) (by decide +kernel)) (fun _ _ _ _ _ => (pg_name (i := 11) sc_law.nd rfl (Or.inl rfl))) (fun _ _ _ _ _ => pts_nil) (fun _ _ _ _ _ => (pe_cmpR (r := rEqF K) (op_eqF hr) (pv 6) (pv 11) (nomark _)))) (nomark _)) (pss_one (ps_ret pe_bl)) pss_nil)))) (Evl.pss_cut (ps_set (i := 9) sc_law.nd rfl (.inl rfl) (pe_op op_cat (pe_ix ix_listT (pv 5) pe_int (fun _ _ => rfl)) (pe_ix ix_listT (pv 5) pe_int (fun _ _ => rfl)))) (Evl.pss_cut (ps_if (PW.pt (pw_or (pt_cmpR (r := rNeF K) (op_neF hr) (pe_call (ok_read_list T) (hr.mono (by decide)) (by rfl) T.g_read_list T.F_read_list.kp T.b_read_list .nil passL (pa_cons (pe_op op_add_str (pe_op op_add_str (pe_ix ix_listT (pv 7) pe_int (fun _ _ => rfl)) pe_str) (pe_ix ix_listT (pv 7) pe_int (fun _ _ => rfl))) pa_nil)) (pv 9) (nomark _)) (pw_or1 (pt_cmpR op_ne (pe_call (ok_show_list T) (hr.mono (by decide)) (by rfl) T.g_show_list T.F_show_list.kp T.b_show_list .nil passL (pa_cons (pv 9) pa_nil)) (pe_op op_add_str (pe_op op_add_str (pe_ix ix_listT (pv 7) pe_int (fun _ _ => rfl)) pe_str) (pe_ix ix_listT (pv 7) pe_int (fun _ _ => rfl))) (nomark _))))) (pss_one (ps_ret pe_bl)) pss_nil) (Evl.pss_cut (ps_set (i := 10) sc_law.nd rfl (.inl rfl) (pe_call (ok_read_list T) (hr.mono (by decide)) (by rfl) T.g_read_list T.F_read_list.kp T.b_read_list .nil passL (pa_cons (pe_ix ix_listT (pv 7) pe_int (fun _ _ => rfl)) pa_nil))) (Evl.pss_cut (ps_if (pt_cmpR op_ne (pe_call (ok_steps_of T) hr (by rfl) T.g_steps_of T.F_steps_of.kp T.b_steps_of .nil passL (pa_cons (pv 3) (pa_cons (pv 4) (pa_cons (pv 10) pa_nil)))) (pe_call (ok_steps_of T) hr (by rfl) T.g_steps_of T.F_steps_of.kp T.b_steps_of .nil passL (pa_cons (pv 3) (pa_cons (pv 4) (pa_cons (pe_ix ix_listT (pv 5) pe_int (fun _ _ => rfl)) pa_nil)))) (nomark _)) (pss_one (ps_ret pe_bl)) pss_nil) (pss_one (ps_if (pt_cmpR op_ne (pe_call (ok_backs_of T) hr (by rfl) T.g_backs_of T.F_backs_of.kp T.b_backs_of .nil passL (pa_cons (pv 3) (pa_cons (pv 4) (pa_cons (pe_call (ok_read_list T) (hr.mono (by decide)) (by rfl) T.g_read_list T.F_read_list.kp T.b_read_list .nil passL (pa_cons (pe_ix ix_listT (pv 7) pe_int (fun _ _ => rfl)) pa_nil)) pa_nil)))) (pv 3) (nomark _)) (pss_one (ps_ret pe_bl)) pss_nil)))))))))))) (pss_one (ps_ret pe_bl))), ?_⟩)
  obtain ⟨_, rfl, S0, ns, rfl, hS, hl, q⟩ := h
  simp only [tSeq]
  refine for_cells (m := 6) rfl hS hl (fun σ H' => ∃ a b c d e f g h i j k, σ = [some (.ref S0), a, b, c, d, e, f, g, h, i, j, k]) (fun _ _ => ⟨_, _, _, _, _, _, _, _, _, _, _, rfl⟩) ?_ ?_
  · rintro H0 e0 σ H' e' ⟨a, b, c, d, e, f, g, h, i, j, k, rfl⟩
    walk_at "rd"
    exact q H'
  rintro H0 e0 x σ H' e' ⟨a, b, c, d, e, f, g, h, i, j, k, rfl⟩
  unfold sp_L_bag
  walk_at "rd"
  refine fun r H2 hr e2 R2 => ?_
  refine Evl.q_cut (M := fun σ' H' => ∃ n s m o3 L a0 a1 a2 a3, σ' = [some (.ref S0), some (.int x), some (.ref r), some (.int n), some (.int s), some (.ref L), f, g, h, i, j, k] ∧ 1 ≤ n ∧ n ≤ 12 ∧ 1 ≤ s ∧ s ≤ 5 ∧ 1 ≤ m ∧ m ≤ 9 ∧ o3.length = 8 ∧ Mo r H2 H' ∧ Bag H' r ∧ L ≠ r ∧ H' L = some (.lst ([a0, a1, a2, a3].map V.ref)) ∧ (∀ a ∈ [a0, a1, a2, a3], a ≠ r) ∧ LsAt H' [a0, a1, a2, a3] [opsL n s 0, [], opsL m 2 0, o3]) ?_ ?_
  · unfold sp_L_lists
    walk_at "rd"
    refine ⟨R2, fun n s m o3 p L a0 a1 a2 a3 H3 n1 n2 s1 s2 m1 m2 l3 o R hp nL hL na la => ?_⟩
    simp only [hp]
    walk_at "rd"
    exact ⟨n1, n2, s1, s2, m, m1, m2, o3, l3, o, R, nL, a0, a1, a2, a3, hL, na, la⟩
  rintro σ H3 ⟨n, s, m, o3, L, a0, a1, a2, a3, rfl, n1, n2, s1, s2, m1, m2, l3, o3', R3, nL, hL, na, la⟩
  refine Evl.q_cut (M := fun σ' H' => ∃ L2 a4 a5 c, σ' = [some (.ref S0), some (.int x), some (.ref r), some (.int n), some (.int s), some (.ref L2), f, g, h, i, j, k] ∧ Mo r H3 H' ∧ Bag H' r ∧ H' L2 = some (.lst ([a0, a1, a2, a3, a4, a5].map V.ref)) ∧ LsAt H' [a0, a1, a2, a3, a4, a5] [opsL n s 0, [], opsL m 2 0, o3, (opsL n s 0).take c, (opsL n s 0).dropLast]) ?_ ?_
  · unfold sp_L_pick
    walk_at "rd"
    obtain ⟨os, q0, oA⟩ := la.2 0 a0 rfl
    cases q0
    obtain ⟨ls, hA, oa, ll, lo⟩ := oA.a
    refine ⟨_, hL, _, atI_0, _, hL, _, atI_0, a0, rfl, ls, .inl (sq_l hA), R3, by omega, by omega, fun z H4 z0 z1 o4 R4 => ?_⟩
    have n0 : a0 ≠ r := na a0 (by simp)
    have hA4 := o4 _ _ n0 hA
    have oa4 := oa.mo o4 R3.lst
    refine ⟨a0, rfl, ls, sq_l hA4, fun p hp => ?_⟩
    have hL4 := o4 _ _ nL hL
    refine ⟨_, exn hp _ _ hL4, _, atI_0, a0, rfl, ls, sq_l (exn hp _ _ hA4), fun p1 hp1 p2 hp2 => ?_⟩
    have ez : cutV ls none (some z) = ls.take z.toNat := by
      have := cut_to ls z.toNat
      rwa [Int.toNat_of_nonneg z0] at this
    rw [ez, cut_m1]
    rw [ez] at hp1 hp2
    rw [cut_m1] at hp2
    have e1 := exn (o := .lst (ls.take z.toNat)) hp
    have e2' := exn (o := .lst ls.dropLast) hp1
    have e3 := exn (o := .lst [.ref p, .ref p1]) hp2
    refine ⟨_, e3 _ _ (e2' _ _ (e1 _ _ hL4)), (show 4 ≤ 16777214 by decide), fun p3 hp3 => ?_⟩
    have e4 := exn (o := .lst ([V.ref a0, V.ref a1, V.ref a2, V.ref a3] ++ [.ref p, .ref p1])) hp3
    have e := ((e1.trans e2').trans e3).trans e4
    refine ⟨o4.trans (Mo.ex e), R4.ex e, p, p1, rfl, z.toNat, ?_⟩
    have la4 := (la.mo o4 R3.lst na).ex e
    refine .cons ?_ (.cons ?_ (.cons ?_ (.cons ?_ (.cons ?_ (.cons ?_ .nil)))))
    · obtain ⟨os, h1, h2⟩ := la4.2 0 a0 rfl; cases h1; exact h2
    · obtain ⟨os, h1, h2⟩ := la4.2 1 a1 rfl; cases h1; exact h2
    · obtain ⟨os, h1, h2⟩ := la4.2 2 a2 rfl; cases h1; exact h2
    · obtain ⟨os, h1, h2⟩ := la4.2 3 a3 rfl; cases h1; exact h2
    · exact ((oa4.ex e).take z.toNat).l (e4 _ _ (e3 _ _ (e2' _ _ upd_same))) (by rw [List.length_take]; omega)
    · have := (oa4.ex e).take (ls.length - 1)
      rw [← List.dropLast_eq_take, ll, ← List.dropLast_eq_take] at this
      exact this.l (e4 _ _ (e3 _ _ upd_same)) (by rw [List.length_dropLast]; omega)
  rintro σ H4 ⟨L2, a4, a5, c, rfl, o4, R4, hL2, l6⟩
  have pbn : PB n s := pb_little n1 (by omega) s1 (by omega)
  have okp := plan_ok n1 s1
  have bkp := (plan_run n1 s1).2
  have lnp := opsL_len n s n1 s1 0
  have lgp := opsN_ge n s n1 s1
  generalize hN : opsL n s 0 = os0 at *
  generalize hoss : [os0, [], opsL m 2 0, o3, os0.take c, os0.dropLast] = oss at *
  have lo : oss.length = 6 := by rw [← hoss]; rfl
  generalize has : [a0, a1, a2, a3, a4, a5] = as at *
  have lx : as.length = 6 := by rw [← has]; rfl
  refine Evl.q_cut (M := fun σ' H' => ∃ X, σ' = [some (.ref S0), some (.int x), some (.ref r), some (.int n), some (.int s), some (.ref L2), f, some (.ref X), h, i, j, k] ∧ Ex H4 H' ∧ H' X = some (.lst ((oss.map showT).map V.str))) ?_ ?_
  · unfold sp_show_list
    walk_at "rd"
    simp only [tLc_lst]
    walk_at "rd"
    refine lcL_in (xs := as.map V.ref) (fun _ => true) (fun i => .str (showT (oss.getD i []))) (sq_l hL2) (by rw [List.length_map]; omega) (fun _ => rfl) (fun i x H2 hi e R k => k H2 (.refl _)) ?_ ?_
    · rintro i v H5 hx _ e R kk
      rw [List.getElem?_map] at hx
      obtain ⟨a, ha, rfl⟩ := Option.map_eq_some_iff.mp hx
      obtain ⟨os, ho, oA⟩ := l6.2 i a ha
      rw [List.getD_eq_getElem?_getD, ho] at kk
      simp only [wipe]
      walk_at "rd"
      exact ⟨os, oA.ex e, fun H6 e6 => kk _ H6 e6 (.str _)⟩
    · intro v H5 e5 hv
      rw [List.length_map, show as.length = oss.length by omega, range_map oss (fun os => PyData.str (showT os)) (fun i => .str (showT (oss.getD i []))) (fun i x h => by show PyData.str (showT (oss.getD i [])) = _; rw [List.getD_eq_getElem?_getD, h]; rfl)] at hv
      obtain ⟨X, rfl, nX, hX⟩ := Rp.strs (zs := oss.map showT) (by rw [List.map_map]; exact hv)
      exact ⟨X, rfl, e5, hX⟩
  rintro σ H5 ⟨X, rfl, e5, hX⟩
  have l65 := l6.ex e5
  have hL5 := e5 _ _ hL2
  refine Evl.q_cut (M := fun σ' H' => ∃ f h k, σ' = [some (.ref S0), some (.int x), some (.ref r), some (.int n), some (.int s), some (.ref L2), f, some (.ref X), h, i, j, k] ∧ Ex H5 H') ?_ ?_
  · simp only [tFor_zip]
    walk_at "rd"
    refine ⟨_, sq_l hL5, _, sq_l hX, forZ_in (xs := as.map V.ref) (ys := (oss.map showT).map V.str) 6 (by simp only [List.length_map]; omega) (fun j' σ' H' => ∃ f h k, σ' = [some (.ref S0), some (.int x), some (.ref r), some (.int n), some (.int s), some (.ref L2), f, some (.ref X), h, i, j, k] ∧ Ex H5 H') ⟨_, _, _, rfl, .refl _⟩ ?_ ?_ ?_⟩
    · rintro j' σ' H' _ ⟨f, h, k, rfl, e⟩
      exact ⟨sq_l (e _ _ hL5), sq_l (e _ _ hX)⟩
    · rintro σ' H' ⟨f, h, k, rfl, e⟩
      exact ⟨_, _, _, rfl, e⟩
    rintro j' x1 x2 T0 σ' H' hx1 hx2 ⟨f, h, k, rfl, e⟩ hT0
    rw [List.getElem?_map] at hx1
    obtain ⟨a, ha, rfl⟩ := Option.map_eq_some_iff.mp hx1
    obtain ⟨os, hos, oA⟩ := l65.2 j' a ha
    rw [List.getElem?_map, List.getElem?_map, hos] at hx2
    cases hx2
    have eT := e.trans (exn (o := .tup [.ref a, .str (showT os)]) hT0)
    have hTu := upd_same (H := H') (a := T0) (o := .tup [.ref a, .str (showT os)])
    generalize upd H' T0 (.tup [.ref a, .str (showT os)]) = Hx at *
    have oAx := oA.ex eT
    obtain ⟨ls, hA, oa, ll, lo4⟩ := oAx.a
    have sf := showT_facts oa.2
    have fo := opsF oa.2 (by omega)
    unfold sp_read_list sp_show_list
    walk_at "rd"
    refine ⟨_, hTu, rfl, _, _, rfl, _, _, rfl, rfl, ?_⟩
    refine Evl.q_cut (M := fun σ' H' => σ' = [some (.ref S0), some (.int x), some (.ref r), some (.int n), some (.int s), some (.ref L2), some (.ref a), some (.ref X), some (.str (showT os)), i, j, k] ∧ Ex Hx H') ?_ ?_
    · walk_at "rd"
      refine read_ok sf.1 (by have := sf.2.1; omega) sf.2.2 (by omega) fun H7 a7 ls7 e7 n7 h7 oa7 => ?_
      refine ⟨_, oa7.dp h7, _, (oa.ex e7).dp (e7 _ _ hA), fo, fo, ?_⟩
      rw [eqv_same fo]
      refine iteNo (by decide) ?_
      refine read_ok sf.1 (by have := sf.2.1; omega) sf.2.2 (by omega) fun H8 a8 ls8 e8 n8 h8 oa8 => ?_
      exact ⟨a8, rfl, os, oa8.l h8 (by omega), fun H9 e9 => iteNo (fun z => z rfl) ((e7.trans e8).trans e9)⟩
    rintro σ H6 ⟨rfl, e6⟩
    have l66 := l65.ex (eT.trans e6)
    have hX6 := e6 _ _ (eT _ _ hX)
    have hL6 := e6 _ _ (eT _ _ hL5)
    walk_at "rd"
    simp only [tLc_lst]
    walk_at "rd"
    have l36 : ((oss.map showT).map V.str).length = oss.length := by rw [List.length_map, List.length_map]
    refine lcL_in (xs := (oss.map showT).map V.str) (fun _ => true) (fun i => .bool (decide (showT os = showT (oss.getD i [])))) (sq_l hX6) (by omega) (fun _ => rfl) (fun i x H2 hi e R k => k H2 (.refl _)) ?_ ?_
    · rintro i v H7 hx _ e R kk
      rw [List.getElem?_map, List.getElem?_map] at hx
      obtain ⟨z, hz, rfl⟩ := Option.map_eq_some_iff.mp hx
      obtain ⟨o9, ho, rfl⟩ := Option.map_eq_some_iff.mp hz
      rw [List.getD_eq_getElem?_getD, ho] at kk
      simp only [wipe]
      walk_at "rd"
      exact kk _ H7 (.refl _) (.bl _)
    · intro v H7 e7 hv
      rw [l36, range_map oss (fun o9 => PyData.bool (decide (showT os = showT o9))) (fun i => .bool (decide (showT os = showT (oss.getD i [])))) (fun i x h => by show PyData.bool (decide (showT os = showT (oss.getD i []))) = _; rw [List.getD_eq_getElem?_getD, h]; rfl)] at hv
      have dv := hv.dp (K := K)
      have hL7 := e7 _ _ hL6
      refine lcL_in (xs := as.map V.ref) (fun _ => true) (fun i => .bool (decide (showT os = showT (oss.getD i [])))) (sq_l hL7) (by rw [List.length_map]; omega) (fun _ => rfl) (fun i x H2 hi e R k => k H2 (.refl _)) ?_ ?_
      · rintro i v H8 hx _ e R kk
        rw [List.getElem?_map] at hx
        obtain ⟨a', ha', rfl⟩ := Option.map_eq_some_iff.mp hx
        obtain ⟨o9, ho, oA'⟩ := l66.2 i a' ha'
        rw [List.getD_eq_getElem?_getD, ho] at kk
        simp only [wipe]
        walk_at "rd"
        obtain ⟨la1, hA1, oa1, _, lo1⟩ := ((oA.ex eT).ex (e6.trans (e7.trans e))).a
        obtain ⟨la2, hA2, oa2, _, lo2⟩ := (oA'.ex (e7.trans e)).a
        refine ⟨_, oa1.dp hA1, _, oa2.dp hA2, fo, opsF oa2.2 (by omega), ?_⟩
        rw [eqv_ops oa1.2 oa2.2 (by omega)]
        exact kk _ H8 (.refl _) (.bl _)
      · intro v2 H8 e8 hv2
        rw [List.length_map, show as.length = oss.length by omega, range_map oss (fun o9 => PyData.bool (decide (showT os = showT o9))) (fun i => .bool (decide (showT os = showT (oss.getD i [])))) (fun i x h => by show PyData.bool (decide (showT os = showT (oss.getD i []))) = _; rw [List.getD_eq_getElem?_getD, h]; rfl)] at hv2
        have fb : fine 20 (.list (oss.map fun o9 => PyData.bool (decide (showT os = showT o9)))) = true := by
          have := bools_fine (n := 19) (l := oss.map fun o9 => decide (showT os = showT o9))
          rw [List.map_map] at this
          exact this
        refine ⟨_, (hv.ex e8).dp, _, hv2.dp, fb, fb, ?_⟩
        rw [eqv_same fb]
        exact iteNo (by decide) (eT.trans ((e6.trans e7).trans e8))
  rintro σ H6 ⟨f, h, k, rfl, e6⟩
  have l66 := l65.ex e6
  have hX6 := e6 _ _ hX
  have hL6 := e6 _ _ hL5
  subst hoss
  subst has
  obtain ⟨_, q0, oA⟩ := l66.2 0 a0 rfl
  cases q0
  obtain ⟨_, q0, oB⟩ := l66.2 3 a3 rfl
  cases q0
  obtain ⟨_, q0, oC⟩ := l66.2 4 a4 rfl
  cases q0
  obtain ⟨lsA, hA, oa, llA, loA⟩ := oA.a
  obtain ⟨lsB, hB, ob, llB, loB⟩ := oB.a
  have sA := showT_facts oa.2
  have sB := showT_facts ob.2
  refine Evl.q_cut (M := fun σ' H' => ∃ BO, σ' = [some (.ref S0), some (.int x), some (.ref r), some (.int n), some (.int s), some (.ref L2), f, some (.ref X), h, some (.ref BO), j, k] ∧ Ex H6 H' ∧ H' BO = some (.lst (lsA ++ lsB))) ?_ ?_
  · walk_at "rd"
    refine ⟨_, hL6, _, atI_0, _, hL6, _, atI_3, a0, rfl, a3, rfl, _, hA, _, hB, by omega, fun p hp => ⟨exn hp, rfl⟩⟩
  rintro σ H7 ⟨BO, rfl, e7, hBO⟩
  have oab := (oa.app ob).ex e7
  have fo := opsF oab.2 (by rw [List.length_append]; omega)
  have lab : (os0 ++ o3).length ≤ 400 := by rw [List.length_append]; omega
  have eab : showT os0 ++ ", " ++ showT o3 = showT (os0 ++ o3) := by
    match os0, o3, lnp, lgp, l3 with
    | o :: t, p :: u, _, _, _ => exact showT_app
    | [], _, h, _, _ => exact absurd h (by simp only [List.length_nil]; omega)
    | _, [], _, _, h => cases h
  have sab := showT_facts oab.2
  refine Evl.q_cut (M := fun σ' H' => σ' = [some (.ref S0), some (.int x), some (.ref r), some (.int n), some (.int s), some (.ref L2), f, some (.ref X), h, some (.ref BO), j, k] ∧ Ex H7 H') ?_ ?_
  · unfold sp_read_list sp_show_list
    walk_at "rd"
    have hX7 := e7 _ _ hX6
    have lc : (Str.ofString ", ").length = 2 := rfl
    have lA := sA.2.1
    have lB := sB.2.1
    have lAc : (showT os0 ++ ", ").length = (showT os0).length + 2 := str_app_len _ _
    refine ⟨_, hX7, _, atI_0, _, rfl, by omega, _, hX7, _, atI_3, _, rfl, by omega, ?_⟩
    have eab' : showT os0 ++ Str.ofString ", " ++ showT o3 = showT (os0 ++ o3) := eab
    rw [eab']
    refine read_ok sab.1 (by have := sab.2.1; omega) sab.2.2 lab fun H8 a8 ls8 e8 n8 h8 oa8 => ?_
    refine ⟨_, oa8.dp h8, _, (oab.ex e8).dp (e8 _ _ hBO), fo, fo, ?_⟩
    rw [eqv_same fo]
    refine iteNo (by decide) ⟨os0 ++ o3, (oab.ex e8).l (e8 _ _ hBO) lab, fun H9 e9 => ?_⟩
    have hX9 := e9 _ _ (e8 _ _ hX7)
    refine ⟨_, hX9, _, atI_0, _, rfl, by omega, _, hX9, _, atI_3, _, rfl, by omega, ?_⟩
    exact iteNo (fun z => z eab'.symm) (e8.trans e9)
  rintro σ H8 ⟨rfl, e8⟩
  have hX8 := e8 _ _ (e7 _ _ hX6)
  have hL8 := e8 _ _ (e7 _ _ hL6)
  have lc4 : (os0.take c).length ≤ os0.length := by rw [List.length_take]; omega
  obtain ⟨lsC, hC, oc, llC, loC⟩ := (oC.ex (e7.trans e8)).a
  have sC := showT_facts oc.2
  refine Evl.q_cut (M := fun σ' H' => ∃ TO tl, σ' = [some (.ref S0), some (.int x), some (.ref r), some (.int n), some (.int s), some (.ref L2), f, some (.ref X), h, some (.ref BO), some (.ref TO), k] ∧ Ex H8 H' ∧ H' TO = some (.lst tl) ∧ OpA H' tl (os0.take c)) ?_ ?_
  · unfold sp_read_list
    walk_at "rd"
    refine ⟨_, hX8, _, atI_4, ?_⟩
    exact read_ok sC.1 (by have := sC.2.1; omega) sC.2.2 loC fun H9 a9 ls9 e9 n9 h9 oa9 => ⟨a9, rfl, e9, ls9, h9, oa9⟩
  rintro σ H9 ⟨TO, tl, rfl, e9, hTO, oat⟩
  refine Evl.q_cut (M := fun σ' H' => σ' = [some (.ref S0), some (.int x), some (.ref r), some (.int n), some (.int s), some (.ref L2), f, some (.ref X), h, some (.ref BO), some (.ref TO), k] ∧ Ex H9 H') ?_ ?_
  · unfold sp_steps_of
    walk_at "rd"
    refine ⟨n, s, TO, os0.take c, rfl, rfl, rfl, oat.l hTO loC, n1, by omega, s1, by omega, ok_take okp c, fun H10 e10 => ?_⟩
    have hL10 := e10 _ _ (e9 _ _ hL8)
    exact ⟨_, hL10, _, atI_4, n, s, a4, os0.take c, rfl, rfl, rfl, ((oC.ex (e7.trans e8)).ex (e9.trans e10)), n1, by omega, s1, by omega, ok_take okp c, fun H11 e11 => iteNo (fun z => z rfl) (e10.trans e11)⟩
  rintro σ H10 ⟨rfl, e10⟩
  unfold sp_read_list sp_backs_of
  walk_at "rd"
  have hX10 := e10 _ _ (e9 _ _ hX8)
  refine ⟨_, hX10, _, atI_0, ?_⟩
  refine read_ok sA.1 (by have := sA.2.1; omega) sA.2.2 (by omega) fun H11 a11 ls11 e11 n11 h11 oa11 => ?_
  refine ⟨n, s, a11, os0, rfl, rfl, rfl, oa11.l h11 (by omega), n1, by omega, s1, by omega, okp, fun H12 e12 => ?_⟩
  refine iteNo (fun z => z bkp) ?_
  have mm : Mo r H2 H12 := (o3'.trans o4).trans (Mo.ex ((((e5.trans e6).trans (e7.trans e8)).trans (e9.trans e10)).trans (e11.trans e12)))
  exact Mo.ex_new (e'.trans e2) (Evl.fresh_back e' hr) mm
end
def d_InvalidOperations___init__ : He.DefD := ⟨("InvalidOperations", some "__init__"), "__init__", "InvalidOperations.__init__", defArgs s_InvalidOperations___init__, defBody s_InvalidOperations___init__, defScope s_InvalidOperations___init__, [], []⟩
def d_InvalidText___init__ : He.DefD := ⟨("InvalidText", some "__init__"), "__init__", "InvalidText.__init__", defArgs s_InvalidText___init__, defBody s_InvalidText___init__, defScope s_InvalidText___init__, [], []⟩
def d_CannotDo___init__ : He.DefD := ⟨("CannotDo", some "__init__"), "__init__", "CannotDo.__init__", defArgs s_CannotDo___init__, defBody s_CannotDo___init__, defScope s_CannotDo___init__, [], []⟩
def d_TooLarge___init__ : He.DefD := ⟨("TooLarge", some "__init__"), "__init__", "TooLarge.__init__", defArgs s_TooLarge___init__, defBody s_TooLarge___init__, defScope s_TooLarge___init__, [], []⟩
def d_TooDeep___init__ : He.DefD := ⟨("TooDeep", some "__init__"), "__init__", "TooDeep.__init__", defArgs s_TooDeep___init__, defBody s_TooDeep___init__, defScope s_TooDeep___init__, [], []⟩
def d_is_int : He.DefD := ⟨("is_int", none), "is_int", "is_int", defArgs s_is_int, defBody s_is_int, defScope s_is_int, [], []⟩
def d_is_whole : He.DefD := ⟨("is_whole", none), "is_whole", "is_whole", defArgs s_is_whole, defBody s_is_whole, defScope s_is_whole, [], []⟩
def d_require_length : He.DefD := ⟨("require_length", none), "require_length", "require_length", defArgs s_require_length, defBody s_require_length, defScope s_require_length, [], []⟩
def d_require_slots : He.DefD := ⟨("require_slots", none), "require_slots", "require_slots", defArgs s_require_slots, defBody s_require_slots, defScope s_require_slots, [], []⟩
def d_require_task : He.DefD := ⟨("require_task", none), "require_task", "require_task", defArgs s_require_task, defBody s_require_task, defScope s_require_task, [], []⟩
def d_reach_of : He.DefD := ⟨("reach_of", none), "reach_of", "reach_of", defArgs s_reach_of, defBody s_reach_of, defScope s_reach_of, [], []⟩
def d_rounds_of : He.DefD := ⟨("rounds_of", none), "rounds_of", "rounds_of", defArgs s_rounds_of, defBody s_rounds_of, defScope s_rounds_of, [], []⟩
def d_is_operation : He.DefD := ⟨("is_operation", none), "is_operation", "is_operation", defArgs s_is_operation, defBody s_is_operation, defScope s_is_operation, [], []⟩
def d_require_operations : He.DefD := ⟨("require_operations", none), "require_operations", "require_operations", defArgs s_require_operations, defBody s_require_operations, defScope s_require_operations, [], []⟩
def d_Trace___init__ : He.DefD := ⟨("Trace", some "__init__"), "__init__", "Trace.__init__", defArgs s_Trace___init__, defBody s_Trace___init__, defScope s_Trace___init__, [], []⟩
def d_Trace_hand : He.DefD := ⟨("Trace", some "hand"), "hand", "Trace.hand", defArgs s_Trace_hand, defBody s_Trace_hand, defScope s_Trace_hand, [], []⟩
def d_Trace_kept : He.DefD := ⟨("Trace", some "kept"), "kept", "Trace.kept", defArgs s_Trace_kept, defBody s_Trace_kept, defScope s_Trace_kept, [], []⟩
def d_Trace_steps : He.DefD := ⟨("Trace", some "steps"), "steps", "Trace.steps", defArgs s_Trace_steps, defBody s_Trace_steps, defScope s_Trace_steps, [], []⟩
def d_Trace_backs : He.DefD := ⟨("Trace", some "backs"), "backs", "Trace.backs", defArgs s_Trace_backs, defBody s_Trace_backs, defScope s_Trace_backs, [], []⟩
def d_Trace_copied : He.DefD := ⟨("Trace", some "copied"), "copied", "Trace.copied", defArgs s_Trace_copied, defBody s_Trace_copied, defScope s_Trace_copied, [], []⟩
def d_Trace_can_do : He.DefD := ⟨("Trace", some "can_do"), "can_do", "Trace.can_do", defArgs s_Trace_can_do, defBody s_Trace_can_do, defScope s_Trace_can_do, [], []⟩
def d_Trace_do : He.DefD := ⟨("Trace", some "do"), "do", "Trace.do", defArgs s_Trace_do, defBody s_Trace_do, defScope s_Trace_do, [], []⟩
def d_require_list : He.DefD := ⟨("require_list", none), "require_list", "require_list", defArgs s_require_list, defBody s_require_list, defScope s_require_list, [], []⟩
def d_wrong_of : He.DefD := ⟨("wrong_of", none), "wrong_of", "wrong_of", defArgs s_wrong_of, defBody s_wrong_of, defScope s_wrong_of, [], []⟩
def d_traces_of : He.DefD := ⟨("traces_of", none), "traces_of", "traces_of", defArgs s_traces_of, defBody s_traces_of, defScope s_traces_of, [], []⟩
def d_steps_of : He.DefD := ⟨("steps_of", none), "steps_of", "steps_of", defArgs s_steps_of, defBody s_steps_of, defScope s_steps_of, [], []⟩
def d_backs_of : He.DefD := ⟨("backs_of", none), "backs_of", "backs_of", defArgs s_backs_of, defBody s_backs_of, defScope s_backs_of, [], []⟩
def d_operation_text : He.DefD := ⟨("operation_text", none), "operation_text", "operation_text", defArgs s_operation_text, defBody s_operation_text, defScope s_operation_text, [], []⟩
def d_show_list : He.DefD := ⟨("show_list", none), "show_list", "show_list", defArgs s_show_list, defBody s_show_list, defScope s_show_list, [], []⟩
def d_whole_in : He.DefD := ⟨("whole_in", none), "whole_in", "whole_in", defArgs s_whole_in, defBody s_whole_in, defScope s_whole_in, [], []⟩
def d_operation_in : He.DefD := ⟨("operation_in", none), "operation_in", "operation_in", defArgs s_operation_in, defBody s_operation_in, defScope s_operation_in, [], []⟩
def d_read_list : He.DefD := ⟨("read_list", none), "read_list", "read_list", defArgs s_read_list, defBody s_read_list, defScope s_read_list, [], []⟩
def d_closed_count : He.DefD := ⟨("closed_count", none), "closed_count", "closed_count", defArgs s_closed_count, defBody s_closed_count, defScope s_closed_count, [], []⟩
def d_halves_of : He.DefD := ⟨("halves_of", none), "halves_of", "halves_of", defArgs s_halves_of, defBody s_halves_of, defScope s_halves_of, [], []⟩
def d_own_operations : He.DefD := ⟨("own_operations", none), "own_operations", "own_operations", defArgs s_own_operations, defBody s_own_operations, defScope s_own_operations, [], []⟩
def d_count_of : He.DefD := ⟨("count_of", none), "count_of", "count_of", defArgs s_count_of, defBody s_count_of, defScope s_count_of, [], []⟩
def d_parts_of : He.DefD := ⟨("parts_of", none), "parts_of", "parts_of", defArgs s_parts_of, defBody s_parts_of, defScope s_parts_of, [], []⟩
def d_whole_plan : He.DefD := ⟨("whole_plan", none), "whole_plan", "whole_plan", defArgs s_whole_plan, defBody s_whole_plan, defScope s_whole_plan, [], []⟩
def d_row_operation : He.DefD := ⟨("row_operation", none), "row_operation", "row_operation", defArgs s_row_operation, defBody s_row_operation, defScope s_row_operation, [], []⟩
def d_operation_of : He.DefD := ⟨("operation_of", none), "operation_of", "operation_of", defArgs s_operation_of, defBody s_operation_of, defScope s_operation_of, [], []⟩
def d_operation_count : He.DefD := ⟨("operation_count", none), "operation_count", "operation_count", defArgs s_operation_count, defBody s_operation_count, defScope s_operation_count, [], []⟩
def d_operation_at : He.DefD := ⟨("operation_at", none), "operation_at", "operation_at", defArgs s_operation_at, defBody s_operation_at, defScope s_operation_at, [], []⟩
def d_plan_list : He.DefD := ⟨("plan_list", none), "plan_list", "plan_list", defArgs s_plan_list, defBody s_plan_list, defScope s_plan_list, [], []⟩
def d_L_bag : He.DefD := ⟨("_law_bag", none), "_law_bag", "_law_bag", defArgs s_L_bag, defBody s_L_bag, defScope s_L_bag, [], []⟩
def d_L_pick : He.DefD := ⟨("_law_pick", none), "_law_pick", "_law_pick", defArgs s_L_pick, defBody s_L_pick, defScope s_L_pick, [], []⟩
def d_L_lists : He.DefD := ⟨("_law_lists", none), "_law_lists", "_law_lists", defArgs s_L_lists, defBody s_L_lists, defScope s_L_lists, [], []⟩
def d_law : He.DefD := ⟨("law", none), "law", "law", defArgs s_law, defBody s_law, defScope s_law, [], []⟩
def pds : List PropD := [("Trace", "hand", d_Trace_hand), ("Trace", "kept", d_Trace_kept), ("Trace", "steps", d_Trace_steps), ("Trace", "backs", d_Trace_backs)]
def fn : List He.DefD := [d_InvalidOperations___init__, d_InvalidText___init__, d_CannotDo___init__, d_TooLarge___init__, d_TooDeep___init__, d_is_int, d_is_whole, d_require_length, d_require_slots, d_require_task, d_reach_of, d_rounds_of, d_is_operation, d_require_operations, d_Trace___init__, d_Trace_copied, d_Trace_can_do, d_Trace_do, d_require_list, d_wrong_of, d_traces_of, d_steps_of, d_backs_of, d_operation_text, d_show_list, d_whole_in, d_operation_in, d_read_list, d_closed_count, d_halves_of, d_own_operations, d_count_of, d_parts_of, d_whole_plan, d_row_operation, d_operation_of, d_operation_count, d_operation_at, d_plan_list, d_L_bag, d_L_pick, d_L_lists, d_law]
def fa : List He.Fa := [.glo "is_int", .glo "is_whole", .glo "require_length", .glo "require_slots", .glo "require_task", .glo "reach_of", .glo "rounds_of", .glo "is_operation", .glo "require_operations", .glo "require_list", .glo "wrong_of", .glo "traces_of", .glo "steps_of", .glo "backs_of", .glo "operation_text", .glo "show_list", .glo "whole_in", .glo "operation_in", .glo "read_list", .glo "closed_count", .glo "halves_of", .glo "own_operations", .glo "count_of", .glo "parts_of", .glo "whole_plan", .glo "row_operation", .glo "operation_of", .glo "operation_count", .glo "operation_at", .glo "plan_list", .glo "_law_bag", .glo "_law_pick", .glo "_law_lists", .glo "law", .free "isinstance", .free "int", .free "bool", .free "range", .free "tuple", .free "str", .free "len", .free "list", .free "enumerate", .free "property", .free "sorted", .free "all", .free "min", .free "divmod", .free "max", .free "zip", .int "MOST_LENGTH" (1000000000000000000000000000000), .int "MOST_SLOTS" (100), .glo "WORDS", .int "MOST_OPERATIONS_lists" (400), .int "MOST_DIGITS" (100), .int "MOST_OPERATIONS_texts" (400), .int "MOST_ROUNDS" (1000), .int "MOST_LISTED" (400), .glo "Trace", .cls "Trace", .noat "Trace" "own_length", .noat "Trace" "own_slots", .noat "Trace" "own_hand", .noat "Trace" "own_kept", .noat "Trace" "own_steps", .noat "Trace" "own_backs", .mkr "Trace", .meth "Trace" "copied", .meth "Trace" "can_do", .meth "Trace" "do"]
abbrev RowR : PySem.W.OpenRow := PySem.W.OpenLaw.row PySem.Challenge.rw_backslots_k49_whole_texts
def cs : List (PySem.W.Frag → Bool) := [errIB [0, 2, 3, 4, 5, 7, 8, 12, 17], sysB, fun K => initB K 0 "item", fun K => initB K 2 "part", fun K => initB K 3 "operation", fun K => initB K 4 "limit", fun K => initB K 5 "rounds", fun K => vdB K (He.ga K "WORDS") [("go", .int 1), ("keep", .non), ("take", .int 0), ("free", .int 0), ("back", .non)]]
def tbs : List He.Tab := [(fun K => He.ga K "WORDS", ["go", "keep", "take", "free", "back"])]
abbrev hk : PySem.W.Hook := hookW 5 cs pds fa fn tbs
def ob (s : PySem.W.SharedT) : (Bool × He.AlD × List He.FnW) × List (Option (List (Option (Str × Int)))) := obW 5 cs pds fa fn tbs (HandSHeadRun.getT s)
theorem ob_eq (s : PySem.W.SharedT) : ob s = hk.obs s.abs := obW_eq (HandSHeadRun.getT_eq s)
def loose : List Str := (["SlotError", "InvalidOperations", "InvalidText", "CannotDo", "TooLarge", "TooDeep", "InvalidLength", "InvalidSlots", "InvalidNumber", "is_int", "is_whole", "MOST_LENGTH", "MOST_SLOTS", "MOST_ROUNDS", "require_length", "require_slots", "require_task", "reach_of", "rounds_of", "MOST_OPERATIONS_lists", "WORDS", "is_operation", "require_operations", "Trace", "require_list", "wrong_of", "traces_of", "steps_of", "backs_of", "MOST_DIGITS"] : List Str) ++ (["MOST_OPERATIONS_texts", "operation_text", "show_list", "whole_in", "operation_in", "read_list", "MOST_LISTED", "closed_count", "halves_of", "own_operations", "count_of", "parts_of", "whole_plan", "row_operation", "operation_of", "operation_count", "operation_at", "plan_list", "_law_bag", "_law_pick", "_law_lists"] : List Str)
theorem runF (w : World) : HandSHeadRun.RunEq RowR (PySem.W.view RowR.prog [58]) hk ob 40000 loose (w.withFollow "special-get-raises" false) := by
  intro os
  kernel_rfl
theorem runT (w : World) : HandSHeadRun.RunEq RowR (PySem.W.view RowR.prog [58]) hk ob 40000 loose (w.withFollow "special-get-raises" true) := by
  intro os
  kernel_rfl
theorem run (w : World) : HandSHeadRun.RunEq RowR (PySem.W.view RowR.prog [58]) hk ob 40000 loose w := PySem.W.byRow2 "special-get-raises" (P := fun w => HandSHeadRun.RunEq RowR (PySem.W.view RowR.prog [58]) hk ob 40000 loose w) runF runT w
theorem facts {P : Program} {w : World} {K : PySem.W.Frag} {h : Heap} {mg : Str → Option Value} {f : Addr} (X : K.In h) (G : h.Ns mainGlobals mg) (hfa : mg ("law" : Str) = some (.ref f)) (c000 : SaysW cs pds fa fn tbs w K) :
    ∃ fd : FuncData, (∀ (s : Shared) (v : Value), BindsTo s fd ⟨[v], []⟩ [("_law_script", v)]) ∧ ∀ base : Heap, K.In base → base.Ns mainGlobals mg → GOk P w K mg base (L2.CX P w) 8 f fd ["_law_script"] (sp_law K) := by
  have c00 := c000.p
  have c0 := c00.cs
  have c := c00.d
  obtain ⟨p_Trace_hand, fd_Trace_hand, F_Trace_hand⟩ := c00.prop 0 (q := ("Trace", "hand", d_Trace_hand)) rfl
  obtain ⟨p_Trace_kept, fd_Trace_kept, F_Trace_kept⟩ := c00.prop 1 (q := ("Trace", "kept", d_Trace_kept)) rfl
  obtain ⟨p_Trace_steps, fd_Trace_steps, F_Trace_steps⟩ := c00.prop 2 (q := ("Trace", "steps", d_Trace_steps)) rfl
  obtain ⟨p_Trace_backs, fd_Trace_backs, F_Trace_backs⟩ := c00.prop 3 (q := ("Trace", "backs", d_Trace_backs)) rfl
  obtain ⟨fd_InvalidOperations___init__, F_InvalidOperations___init__⟩ := c.def_ 0 (d := d_InvalidOperations___init__) rfl
  have b_InvalidOperations___init__ : Binds K fd_InvalidOperations___init__ ["self", "item"] [] := F_InvalidOperations___init__.bindsN fun _ _ _ _ _ _ us hl => match us, hl with | [_, _], _ => rfl
  obtain ⟨fd_InvalidText___init__, F_InvalidText___init__⟩ := c.def_ 1 (d := d_InvalidText___init__) rfl
  have b_InvalidText___init__ : Binds K fd_InvalidText___init__ ["self", "part"] [] := F_InvalidText___init__.bindsN fun _ _ _ _ _ _ us hl => match us, hl with | [_, _], _ => rfl
  obtain ⟨fd_CannotDo___init__, F_CannotDo___init__⟩ := c.def_ 2 (d := d_CannotDo___init__) rfl
  have b_CannotDo___init__ : Binds K fd_CannotDo___init__ ["self", "operation"] [] := F_CannotDo___init__.bindsN fun _ _ _ _ _ _ us hl => match us, hl with | [_, _], _ => rfl
  obtain ⟨fd_TooLarge___init__, F_TooLarge___init__⟩ := c.def_ 3 (d := d_TooLarge___init__) rfl
  have b_TooLarge___init__ : Binds K fd_TooLarge___init__ ["self", "limit"] [] := F_TooLarge___init__.bindsN fun _ _ _ _ _ _ us hl => match us, hl with | [_, _], _ => rfl
  obtain ⟨fd_TooDeep___init__, F_TooDeep___init__⟩ := c.def_ 4 (d := d_TooDeep___init__) rfl
  have b_TooDeep___init__ : Binds K fd_TooDeep___init__ ["self", "rounds"] [] := F_TooDeep___init__.bindsN fun _ _ _ _ _ _ us hl => match us, hl with | [_, _], _ => rfl
  obtain ⟨fd_is_int, F_is_int⟩ := c.def_ 5 (d := d_is_int) rfl
  have b_is_int : Binds K fd_is_int ["value"] [] := F_is_int.bindsN fun _ _ _ _ _ _ us hl => match us, hl with | [_], _ => rfl
  obtain ⟨fd_is_whole, F_is_whole⟩ := c.def_ 6 (d := d_is_whole) rfl
  have b_is_whole : Binds K fd_is_whole ["value", "low", "high"] [] := F_is_whole.bindsN fun _ _ _ _ _ _ us hl => match us, hl with | [_, _, _], _ => rfl
  obtain ⟨fd_require_length, F_require_length⟩ := c.def_ 7 (d := d_require_length) rfl
  have b_require_length : Binds K fd_require_length ["value"] [] := F_require_length.bindsN fun _ _ _ _ _ _ us hl => match us, hl with | [_], _ => rfl
  obtain ⟨fd_require_slots, F_require_slots⟩ := c.def_ 8 (d := d_require_slots) rfl
  have b_require_slots : Binds K fd_require_slots ["value"] [] := F_require_slots.bindsN fun _ _ _ _ _ _ us hl => match us, hl with | [_], _ => rfl
  obtain ⟨fd_require_task, F_require_task⟩ := c.def_ 9 (d := d_require_task) rfl
  have b_require_task : Binds K fd_require_task ["length", "slots"] [] := F_require_task.bindsN fun _ _ _ _ _ _ us hl => match us, hl with | [_, _], _ => rfl
  obtain ⟨fd_reach_of, F_reach_of⟩ := c.def_ 10 (d := d_reach_of) rfl
  have b_reach_of : Binds K fd_reach_of ["slots", "rounds"] [] := F_reach_of.bindsN fun _ _ _ _ _ _ us hl => match us, hl with | [_, _], _ => rfl
  obtain ⟨fd_rounds_of, F_rounds_of⟩ := c.def_ 11 (d := d_rounds_of) rfl
  have b_rounds_of : Binds K fd_rounds_of ["length", "slots"] [] := F_rounds_of.bindsN fun _ _ _ _ _ _ us hl => match us, hl with | [_, _], _ => rfl
  obtain ⟨fd_is_operation, F_is_operation⟩ := c.def_ 12 (d := d_is_operation) rfl
  have b_is_operation : Binds K fd_is_operation ["value"] [] := F_is_operation.bindsN fun _ _ _ _ _ _ us hl => match us, hl with | [_], _ => rfl
  obtain ⟨fd_require_operations, F_require_operations⟩ := c.def_ 13 (d := d_require_operations) rfl
  have b_require_operations : Binds K fd_require_operations ["value"] [] := F_require_operations.bindsN fun _ _ _ _ _ _ us hl => match us, hl with | [_], _ => rfl
  obtain ⟨fd_Trace___init__, F_Trace___init__⟩ := c.def_ 14 (d := d_Trace___init__) rfl
  have b_Trace___init__ : Binds K fd_Trace___init__ ["self", "length", "slots"] [] := F_Trace___init__.bindsN fun _ _ _ _ _ _ us hl => match us, hl with | [_, _, _], _ => rfl
  have b_Trace_hand : Binds K fd_Trace_hand ["self"] [] := F_Trace_hand.bindsN fun _ _ _ _ _ _ us hl => match us, hl with | [_], _ => rfl
  have b_Trace_kept : Binds K fd_Trace_kept ["self"] [] := F_Trace_kept.bindsN fun _ _ _ _ _ _ us hl => match us, hl with | [_], _ => rfl
  have b_Trace_steps : Binds K fd_Trace_steps ["self"] [] := F_Trace_steps.bindsN fun _ _ _ _ _ _ us hl => match us, hl with | [_], _ => rfl
  have b_Trace_backs : Binds K fd_Trace_backs ["self"] [] := F_Trace_backs.bindsN fun _ _ _ _ _ _ us hl => match us, hl with | [_], _ => rfl
  obtain ⟨fd_Trace_copied, F_Trace_copied⟩ := c.def_ 15 (d := d_Trace_copied) rfl
  have b_Trace_copied : Binds K fd_Trace_copied ["self"] [] := F_Trace_copied.bindsN fun _ _ _ _ _ _ us hl => match us, hl with | [_], _ => rfl
  obtain ⟨fd_Trace_can_do, F_Trace_can_do⟩ := c.def_ 16 (d := d_Trace_can_do) rfl
  have b_Trace_can_do : Binds K fd_Trace_can_do ["self", "operation"] [] := F_Trace_can_do.bindsN fun _ _ _ _ _ _ us hl => match us, hl with | [_, _], _ => rfl
  obtain ⟨fd_Trace_do, F_Trace_do⟩ := c.def_ 17 (d := d_Trace_do) rfl
  have b_Trace_do : Binds K fd_Trace_do ["self", "operation"] [] := F_Trace_do.bindsN fun _ _ _ _ _ _ us hl => match us, hl with | [_, _], _ => rfl
  obtain ⟨fd_require_list, F_require_list⟩ := c.def_ 18 (d := d_require_list) rfl
  have b_require_list : Binds K fd_require_list ["length", "slots", "operations"] [] := F_require_list.bindsN fun _ _ _ _ _ _ us hl => match us, hl with | [_, _, _], _ => rfl
  obtain ⟨fd_wrong_of, F_wrong_of⟩ := c.def_ 19 (d := d_wrong_of) rfl
  have b_wrong_of : Binds K fd_wrong_of ["length", "slots", "operations"] [] := F_wrong_of.bindsN fun _ _ _ _ _ _ us hl => match us, hl with | [_, _, _], _ => rfl
  obtain ⟨fd_traces_of, F_traces_of⟩ := c.def_ 20 (d := d_traces_of) rfl
  have b_traces_of : Binds K fd_traces_of ["length", "slots", "operations"] [] := F_traces_of.bindsN fun _ _ _ _ _ _ us hl => match us, hl with | [_, _, _], _ => rfl
  obtain ⟨fd_steps_of, F_steps_of⟩ := c.def_ 21 (d := d_steps_of) rfl
  have b_steps_of : Binds K fd_steps_of ["length", "slots", "operations"] [] := F_steps_of.bindsN fun _ _ _ _ _ _ us hl => match us, hl with | [_, _, _], _ => rfl
  obtain ⟨fd_backs_of, F_backs_of⟩ := c.def_ 22 (d := d_backs_of) rfl
  have b_backs_of : Binds K fd_backs_of ["length", "slots", "operations"] [] := F_backs_of.bindsN fun _ _ _ _ _ _ us hl => match us, hl with | [_, _, _], _ => rfl
  obtain ⟨fd_operation_text, F_operation_text⟩ := c.def_ 23 (d := d_operation_text) rfl
  have b_operation_text : Binds K fd_operation_text ["operation"] [] := F_operation_text.bindsN fun _ _ _ _ _ _ us hl => match us, hl with | [_], _ => rfl
  obtain ⟨fd_show_list, F_show_list⟩ := c.def_ 24 (d := d_show_list) rfl
  have b_show_list : Binds K fd_show_list ["operations"] [] := F_show_list.bindsN fun _ _ _ _ _ _ us hl => match us, hl with | [_], _ => rfl
  obtain ⟨fd_whole_in, F_whole_in⟩ := c.def_ 25 (d := d_whole_in) rfl
  have b_whole_in : Binds K fd_whole_in ["word"] [] := F_whole_in.bindsN fun _ _ _ _ _ _ us hl => match us, hl with | [_], _ => rfl
  obtain ⟨fd_operation_in, F_operation_in⟩ := c.def_ 26 (d := d_operation_in) rfl
  have b_operation_in : Binds K fd_operation_in ["part"] [] := F_operation_in.bindsN fun _ _ _ _ _ _ us hl => match us, hl with | [_], _ => rfl
  obtain ⟨fd_read_list, F_read_list⟩ := c.def_ 27 (d := d_read_list) rfl
  have b_read_list : Binds K fd_read_list ["text"] [] := F_read_list.bindsN fun _ _ _ _ _ _ us hl => match us, hl with | [_], _ => rfl
  obtain ⟨fd_closed_count, F_closed_count⟩ := c.def_ 28 (d := d_closed_count) rfl
  have b_closed_count : Binds K fd_closed_count ["some"] [] := F_closed_count.bindsN fun _ _ _ _ _ _ us hl => match us, hl with | [_], _ => rfl
  obtain ⟨fd_halves_of, F_halves_of⟩ := c.def_ 29 (d := d_halves_of) rfl
  have b_halves_of : Binds K fd_halves_of ["some"] [] := F_halves_of.bindsN fun _ _ _ _ _ _ us hl => match us, hl with | [_], _ => rfl
  obtain ⟨fd_own_operations, F_own_operations⟩ := c.def_ 30 (d := d_own_operations) rfl
  have b_own_operations : Binds K fd_own_operations ["behind"] [] := F_own_operations.bindsN fun _ _ _ _ _ _ us hl => match us, hl with | [_], _ => rfl
  obtain ⟨fd_count_of, F_count_of⟩ := c.def_ 31 (d := d_count_of) rfl
  have b_count_of : Binds K fd_count_of ["some"] [] := F_count_of.bindsN fun _ _ _ _ _ _ us hl => match us, hl with | [_], _ => rfl
  obtain ⟨fd_parts_of, F_parts_of⟩ := c.def_ 32 (d := d_parts_of) rfl
  have b_parts_of : Binds K fd_parts_of ["part"] [] := F_parts_of.bindsN fun _ _ _ _ _ _ us hl => match us, hl with | [_], _ => rfl
  obtain ⟨fd_whole_plan, F_whole_plan⟩ := c.def_ 33 (d := d_whole_plan) rfl
  have b_whole_plan : Binds K fd_whole_plan ["length", "slots"] [] := F_whole_plan.bindsN fun _ _ _ _ _ _ us hl => match us, hl with | [_, _], _ => rfl
  obtain ⟨fd_row_operation, F_row_operation⟩ := c.def_ 34 (d := d_row_operation) rfl
  have b_row_operation : Binds K fd_row_operation ["part", "number"] [] := F_row_operation.bindsN fun _ _ _ _ _ _ us hl => match us, hl with | [_, _], _ => rfl
  obtain ⟨fd_operation_of, F_operation_of⟩ := c.def_ 35 (d := d_operation_of) rfl
  have b_operation_of : Binds K fd_operation_of ["plan", "number"] [] := F_operation_of.bindsN fun _ _ _ _ _ _ us hl => match us, hl with | [_, _], _ => rfl
  obtain ⟨fd_operation_count, F_operation_count⟩ := c.def_ 36 (d := d_operation_count) rfl
  have b_operation_count : Binds K fd_operation_count ["length", "slots"] [] := F_operation_count.bindsN fun _ _ _ _ _ _ us hl => match us, hl with | [_, _], _ => rfl
  obtain ⟨fd_operation_at, F_operation_at⟩ := c.def_ 37 (d := d_operation_at) rfl
  have b_operation_at : Binds K fd_operation_at ["length", "slots", "number"] [] := F_operation_at.bindsN fun _ _ _ _ _ _ us hl => match us, hl with | [_, _, _], _ => rfl
  obtain ⟨fd_plan_list, F_plan_list⟩ := c.def_ 38 (d := d_plan_list) rfl
  have b_plan_list : Binds K fd_plan_list ["length", "slots"] [] := F_plan_list.bindsN fun _ _ _ _ _ _ us hl => match us, hl with | [_, _], _ => rfl
  obtain ⟨fd_L_bag, F_L_bag⟩ := c.def_ 39 (d := d_L_bag) rfl
  have b_L_bag : Binds K fd_L_bag ["_law_cell"] [] := F_L_bag.bindsN fun _ _ _ _ _ _ us hl => match us, hl with | [_], _ => rfl
  obtain ⟨fd_L_pick, F_L_pick⟩ := c.def_ 40 (d := d_L_pick) rfl
  have b_L_pick : Binds K fd_L_pick ["_law_bag_here", "_law_many"] [] := F_L_pick.bindsN fun _ _ _ _ _ _ us hl => match us, hl with | [_, _], _ => rfl
  obtain ⟨fd_L_lists, F_L_lists⟩ := c.def_ 41 (d := d_L_lists) rfl
  have b_L_lists : Binds K fd_L_lists ["_law_bag_here"] [] := F_L_lists.bindsN fun _ _ _ _ _ _ us hl => match us, hl with | [_], _ => rfl
  obtain ⟨fd_law, F_law⟩ := c.def_ 42 (d := d_law) rfl
  have b_law : Binds K fd_law ["_law_script"] [] := F_law.bindsN fun _ _ _ _ _ _ us hl => match us, hl with | [_], _ => rfl
  have e := hfa.symm.trans (He.glo_ok X G (c.fact 33 (f := .glo "law") rfl))
  cases e
  obtain ⟨t_MOST_LENGTH, c_MOST_LENGTH⟩ := He.int_ok X G (c.fact 50 (f := .int "MOST_LENGTH" (1000000000000000000000000000000)) rfl)
  obtain ⟨t_MOST_SLOTS, c_MOST_SLOTS⟩ := He.int_ok X G (c.fact 51 (f := .int "MOST_SLOTS" (100)) rfl)
  obtain ⟨t_MOST_OPERATIONS_lists, c_MOST_OPERATIONS_lists⟩ := He.int_ok X G (c.fact 53 (f := .int "MOST_OPERATIONS_lists" (400)) rfl)
  obtain ⟨t_MOST_DIGITS, c_MOST_DIGITS⟩ := He.int_ok X G (c.fact 54 (f := .int "MOST_DIGITS" (100)) rfl)
  obtain ⟨t_MOST_OPERATIONS_texts, c_MOST_OPERATIONS_texts⟩ := He.int_ok X G (c.fact 55 (f := .int "MOST_OPERATIONS_texts" (400)) rfl)
  obtain ⟨t_MOST_ROUNDS, c_MOST_ROUNDS⟩ := He.int_ok X G (c.fact 56 (f := .int "MOST_ROUNDS" (1000)) rfl)
  obtain ⟨t_MOST_LISTED, c_MOST_LISTED⟩ := He.int_ok X G (c.fact 57 (f := .int "MOST_LISTED" (400)) rfl)
  have b := FunD.bindsA (ps := ["_law_script"]) F_law fun _ _ _ _ _ _ us hl => match us, hl with | [_], _ => rfl
  exact ⟨fd_law, fun s v => b s [v] rfl, fun base _ _ => gok_fn (ok_law ⟨_,
    fd_InvalidOperations___init__,
    F_InvalidOperations___init__,
    b_InvalidOperations___init__,
    _,
    fd_InvalidText___init__,
    F_InvalidText___init__,
    b_InvalidText___init__,
    _,
    fd_CannotDo___init__,
    F_CannotDo___init__,
    b_CannotDo___init__,
    _,
    fd_TooLarge___init__,
    F_TooLarge___init__,
    b_TooLarge___init__,
    _,
    fd_TooDeep___init__,
    F_TooDeep___init__,
    b_TooDeep___init__,
    _,
    fd_is_int,
    F_is_int,
    b_is_int,
    He.glo_ok X G (c.fact 0 (f := .glo "is_int") rfl),
    _,
    fd_is_whole,
    F_is_whole,
    b_is_whole,
    He.glo_ok X G (c.fact 1 (f := .glo "is_whole") rfl),
    _,
    fd_require_length,
    F_require_length,
    b_require_length,
    He.glo_ok X G (c.fact 2 (f := .glo "require_length") rfl),
    _,
    fd_require_slots,
    F_require_slots,
    b_require_slots,
    He.glo_ok X G (c.fact 3 (f := .glo "require_slots") rfl),
    _,
    fd_require_task,
    F_require_task,
    b_require_task,
    He.glo_ok X G (c.fact 4 (f := .glo "require_task") rfl),
    _,
    fd_reach_of,
    F_reach_of,
    b_reach_of,
    He.glo_ok X G (c.fact 5 (f := .glo "reach_of") rfl),
    _,
    fd_rounds_of,
    F_rounds_of,
    b_rounds_of,
    He.glo_ok X G (c.fact 6 (f := .glo "rounds_of") rfl),
    _,
    fd_is_operation,
    F_is_operation,
    b_is_operation,
    He.glo_ok X G (c.fact 7 (f := .glo "is_operation") rfl),
    _,
    fd_require_operations,
    F_require_operations,
    b_require_operations,
    He.glo_ok X G (c.fact 8 (f := .glo "require_operations") rfl),
    _,
    fd_Trace___init__,
    F_Trace___init__,
    b_Trace___init__,
    _,
    fd_Trace_hand,
    F_Trace_hand,
    b_Trace_hand,
    _,
    fd_Trace_kept,
    F_Trace_kept,
    b_Trace_kept,
    _,
    fd_Trace_steps,
    F_Trace_steps,
    b_Trace_steps,
    _,
    fd_Trace_backs,
    F_Trace_backs,
    b_Trace_backs,
    _,
    fd_Trace_copied,
    F_Trace_copied,
    b_Trace_copied,
    _,
    fd_Trace_can_do,
    F_Trace_can_do,
    b_Trace_can_do,
    _,
    fd_Trace_do,
    F_Trace_do,
    b_Trace_do,
    _,
    fd_require_list,
    F_require_list,
    b_require_list,
    He.glo_ok X G (c.fact 9 (f := .glo "require_list") rfl),
    _,
    fd_wrong_of,
    F_wrong_of,
    b_wrong_of,
    He.glo_ok X G (c.fact 10 (f := .glo "wrong_of") rfl),
    _,
    fd_traces_of,
    F_traces_of,
    b_traces_of,
    He.glo_ok X G (c.fact 11 (f := .glo "traces_of") rfl),
    _,
    fd_steps_of,
    F_steps_of,
    b_steps_of,
    He.glo_ok X G (c.fact 12 (f := .glo "steps_of") rfl),
    _,
    fd_backs_of,
    F_backs_of,
    b_backs_of,
    He.glo_ok X G (c.fact 13 (f := .glo "backs_of") rfl),
    _,
    fd_operation_text,
    F_operation_text,
    b_operation_text,
    He.glo_ok X G (c.fact 14 (f := .glo "operation_text") rfl),
    _,
    fd_show_list,
    F_show_list,
    b_show_list,
    He.glo_ok X G (c.fact 15 (f := .glo "show_list") rfl),
    _,
    fd_whole_in,
    F_whole_in,
    b_whole_in,
    He.glo_ok X G (c.fact 16 (f := .glo "whole_in") rfl),
    _,
    fd_operation_in,
    F_operation_in,
    b_operation_in,
    He.glo_ok X G (c.fact 17 (f := .glo "operation_in") rfl),
    _,
    fd_read_list,
    F_read_list,
    b_read_list,
    He.glo_ok X G (c.fact 18 (f := .glo "read_list") rfl),
    _,
    fd_closed_count,
    F_closed_count,
    b_closed_count,
    He.glo_ok X G (c.fact 19 (f := .glo "closed_count") rfl),
    _,
    fd_halves_of,
    F_halves_of,
    b_halves_of,
    He.glo_ok X G (c.fact 20 (f := .glo "halves_of") rfl),
    _,
    fd_own_operations,
    F_own_operations,
    b_own_operations,
    He.glo_ok X G (c.fact 21 (f := .glo "own_operations") rfl),
    _,
    fd_count_of,
    F_count_of,
    b_count_of,
    He.glo_ok X G (c.fact 22 (f := .glo "count_of") rfl),
    _,
    fd_parts_of,
    F_parts_of,
    b_parts_of,
    He.glo_ok X G (c.fact 23 (f := .glo "parts_of") rfl),
    _,
    fd_whole_plan,
    F_whole_plan,
    b_whole_plan,
    He.glo_ok X G (c.fact 24 (f := .glo "whole_plan") rfl),
    _,
    fd_row_operation,
    F_row_operation,
    b_row_operation,
    He.glo_ok X G (c.fact 25 (f := .glo "row_operation") rfl),
    _,
    fd_operation_of,
    F_operation_of,
    b_operation_of,
    He.glo_ok X G (c.fact 26 (f := .glo "operation_of") rfl),
    _,
    fd_operation_count,
    F_operation_count,
    b_operation_count,
    He.glo_ok X G (c.fact 27 (f := .glo "operation_count") rfl),
    _,
    fd_operation_at,
    F_operation_at,
    b_operation_at,
    He.glo_ok X G (c.fact 28 (f := .glo "operation_at") rfl),
    _,
    fd_plan_list,
    F_plan_list,
    b_plan_list,
    He.glo_ok X G (c.fact 29 (f := .glo "plan_list") rfl),
    _,
    fd_L_bag,
    F_L_bag,
    b_L_bag,
    He.glo_ok X G (c.fact 30 (f := .glo "_law_bag") rfl),
    _,
    fd_L_pick,
    F_L_pick,
    b_L_pick,
    He.glo_ok X G (c.fact 31 (f := .glo "_law_pick") rfl),
    _,
    fd_L_lists,
    F_L_lists,
    b_L_lists,
    He.glo_ok X G (c.fact 32 (f := .glo "_law_lists") rfl),
    _,
    fd_law,
    F_law,
    b_law,
    He.glo_ok X G (c.fact 33 (f := .glo "law") rfl),
    He.free_ok X G (c.fact 34 (f := .free "isinstance") rfl),
    He.free_ok X G (c.fact 35 (f := .free "int") rfl),
    He.free_ok X G (c.fact 36 (f := .free "bool") rfl),
    He.free_ok X G (c.fact 37 (f := .free "range") rfl),
    He.free_ok X G (c.fact 38 (f := .free "tuple") rfl),
    He.free_ok X G (c.fact 39 (f := .free "str") rfl),
    He.free_ok X G (c.fact 40 (f := .free "len") rfl),
    He.free_ok X G (c.fact 41 (f := .free "list") rfl),
    He.free_ok X G (c.fact 42 (f := .free "enumerate") rfl),
    He.free_ok X G (c.fact 43 (f := .free "property") rfl),
    He.free_ok X G (c.fact 44 (f := .free "sorted") rfl),
    He.free_ok X G (c.fact 45 (f := .free "all") rfl),
    He.free_ok X G (c.fact 46 (f := .free "min") rfl),
    He.free_ok X G (c.fact 47 (f := .free "divmod") rfl),
    He.free_ok X G (c.fact 48 (f := .free "max") rfl),
    He.free_ok X G (c.fact 49 (f := .free "zip") rfl),
    t_MOST_LENGTH,
    c_MOST_LENGTH,
    t_MOST_SLOTS,
    c_MOST_SLOTS,
    He.glo_ok X G (c.fact 52 (f := .glo "WORDS") rfl),
    wordD_ok (c000.tab 0 (t := (fun K => He.ga K "WORDS", ["go", "keep", "take", "free", "back"])) rfl) (List.all_eq_true.mp c0 _ (List.mem_of_getElem? (i := 7) rfl)),
    t_MOST_OPERATIONS_lists,
    c_MOST_OPERATIONS_lists,
    t_MOST_DIGITS,
    c_MOST_DIGITS,
    t_MOST_OPERATIONS_texts,
    c_MOST_OPERATIONS_texts,
    t_MOST_ROUNDS,
    c_MOST_ROUNDS,
    t_MOST_LISTED,
    c_MOST_LISTED,
    errI_ok X G (List.all_eq_true.mp c0 _ (List.mem_of_getElem? (i := 0) rfl)),
    List.all_eq_true.mp c0 _ (List.mem_of_getElem? (i := 1) rfl),
    He.cls_ok (c.fact 59 (f := .cls "Trace") rfl),
    He.glo_ok X G (c.fact 58 (f := .glo "Trace") rfl),
    He.noat_ok (c.fact 60 (f := .noat "Trace" "own_length") rfl),
    He.noat_ok (c.fact 61 (f := .noat "Trace" "own_slots") rfl),
    He.noat_ok (c.fact 62 (f := .noat "Trace" "own_hand") rfl),
    He.noat_ok (c.fact 63 (f := .noat "Trace" "own_kept") rfl),
    He.noat_ok (c.fact 64 (f := .noat "Trace" "own_steps") rfl),
    He.noat_ok (c.fact 65 (f := .noat "Trace" "own_backs") rfl),
    He.mkr_ok (c.fact 66 (f := .mkr "Trace") rfl),
    He.meth_ok (c.fact 67 (f := .meth "Trace" "copied") rfl),
    He.meth_ok (c.fact 68 (f := .meth "Trace" "can_do") rfl),
    He.meth_ok (c.fact 69 (f := .meth "Trace" "do") rfl),
    _,
    p_Trace_hand,
    _,
    p_Trace_kept,
    _,
    p_Trace_steps,
    _,
    p_Trace_backs,
    initB_ok (List.all_eq_true.mp c0 _ (List.mem_of_getElem? (i := 2) rfl)),
    initB_ok (List.all_eq_true.mp c0 _ (List.mem_of_getElem? (i := 3) rfl)),
    initB_ok (List.all_eq_true.mp c0 _ (List.mem_of_getElem? (i := 4) rfl)),
    initB_ok (List.all_eq_true.mp c0 _ (List.mem_of_getElem? (i := 5) rfl)),
    initB_ok (List.all_eq_true.mp c0 _ (List.mem_of_getElem? (i := 6) rfl))⟩)⟩
end Bs
open PySem PySem.W PySem.Calls PyProof.Rows
theorem PySem.Challenge.cw_backslots_k49_whole_texts_holds : PySem.Challenge.rw_backslots_k49_whole_texts.Holds := by
  w_on; o_law
  refine HandSHeadRun.head_any (r := OpenLaw.row PySem.Challenge.rw_backslots_k49_whole_texts) (q := view (OpenLaw.row PySem.Challenge.rw_backslots_k49_whole_texts).prog [58]) (H := Bs.hk) (ob := Bs.ob) (M := 40000) (loose := Bs.loose) (d := HandSHeadRun.topDef (OpenLaw.row PySem.Challenge.rw_backslots_k49_whole_texts).prog 58) (kwd := []) Bs.ob_eq
    (by kernel_rfl) (fun s => by kernel_rfl) Bs.run (by kernel_rfl) (by kernel_rfl) (by kernel_rfl) (by rfl) (by first | assumption | decide +kernel) (by decide +kernel) ⟨rfl, rfl, rfl, rfl, rfl, by decide +kernel⟩ ?hw ?hc
  case hw => w_witness2
  case hc =>
    refine Bs.walk_g (l := PySem.Challenge.rw_backslots_k49_whole_texts) (n := 63) (k := 8) (x := "_law_script") rfl (by decide) (by kernel_rfl) ⟨rfl, by decide, by decide⟩ ?F
    intro w mg fa h Y G hmg0
    obtain ⟨K, KX, c⟩ := Y
    have hmg : mg ("law" : PySem.Str) = some (.ref fa) := by
      have e : (HandSHeadRun.topDef (OpenLaw.row PySem.Challenge.rw_backslots_k49_whole_texts).prog 58).name = ("law" : PySem.Str) := by kernel_rfl
      rw [← e]
      exact hmg0
    obtain ⟨fd, hb, hF⟩ := Bs.facts (P := (PySem.Challenge.rw_backslots_k49_whole_texts).prog) (w := w) KX G hmg c
    exact ⟨K, fd, Bs.sp_law K, KX, hb, fun H a ns hl hO hS => Bs.law_in hl hS fun _ => rfl, hF⟩
